import PyProof.Rows.All
import Wide.All
import OpenK.AllK
import Wide.FinOn
import HandS.ForMost
import HandS.IsInst
import HandS.Wide
import HandS.WideBits
import HandS.Style
import HandS.TupAny
import HandS.NoneIn
import HandS.Walk
import HandS.WordsExc
import HandS.Deep
import HandS.More
import HandS.Defaults
import KE.KDictKeyed
import KE.KDictLaw
import KE.KDictDisplayH
import KE.GoesEnum
import KE.KTupSum
import PySem.Challenge.RW_healwires_k30_whole_what_must_go_wrong
import HandS.Codes
import HandS.Head0
import HandS.Head1
import HandS.Head2
import HandS.HeadEnd
import HandS.HeadHook1
import HandS.HeadHook2
import HandS.HeadHook3
import HandS.HeadHook4
set_option Elab.async false
set_option linter.all false
set_option maxRecDepth 100000
set_option maxHeartbeats 4000000
/-! H0: pure data over the hand layer. -/
namespace Hw
open PySem PySem.Spec PyProof.Rows L2

/-! ### heaps that grow in tuples -/
def Gr (H H' : Hp) : Prop := (∀ a xs, H a = some (.tup xs) → H' a = some (.tup xs)) ∧ ∀ a o u, H a = some (.frz o u) → H' a = some (.frz o u)
theorem Gr.refl (H : Hp) : Gr H H := ⟨fun _ _ h => h, fun _ _ _ h => h⟩
theorem Gr.trans {H H1 H2 : Hp} (a : Gr H H1) (b : Gr H1 H2) : Gr H H2 := ⟨fun x o h => b.1 x o (a.1 x o h), fun x o u h => b.2 x o u (a.2 x o u h)⟩
theorem _root_.L2.Same.gr {H H' : Hp} (s : Same H H') : Gr H H' := ⟨fun a xs h => s a _ h, fun a o u h => s a _ h⟩
theorem same_new {H : Hp} {p : Addr} {o : HO} (h : H p = none) : Same H (upd H p o) := fun b x e => by
  rw [upd_ne (ne_of_none e h)]; exact e
theorem gr_lst {H : Hp} {p : Addr} {o : HO} {xs : List V} (h : H p = some (.lst xs)) : Gr H (upd H p o) :=
  ⟨fun a ys e => by rw [upd_ne (ne_of e h (by intro z; cases z))]; exact e, fun a ob u e => by rw [upd_ne (ne_of e h (by intro z; cases z))]; exact e⟩
theorem Gr.sqT {K : PySem.W.Frag} {H H' : Hp} {a : Addr} {xs : List V} (g : Gr H H') (h : SqT K H a xs) : SqT K H' a xs := by
  rcases h with (h | ⟨o, h⟩) | h
  · exact .inl (.inl (g.1 _ _ h))
  · exact .inl (.inr ⟨o, g.2 _ _ _ h⟩)
  · exact .inr h
/-- all but the object at g is as it was -/
def But (g : Addr) (H H' : Hp) : Prop := ∀ b o, b ≠ g → H b = some o → H' b = some o
theorem But.refl (g : Addr) (H : Hp) : But g H H := fun _ _ _ h => h
theorem But.trans {g : Addr} {H H1 H2 : Hp} (a : But g H H1) (b : But g H1 H2) : But g H H2 := fun x o n h => b x o n (a x o n h)
theorem _root_.L2.Same.but {g : Addr} {H H' : Hp} (s : Same H H') : But g H H' := fun b o _ h => s b o h
theorem But.gr {g : Addr} {H H' : Hp} {xs : List V} (s : But g H H') (h : H g = some (.lst xs)) : Gr H H' :=
  ⟨fun a ys e => s a _ (ne_of e h (by intro z; cases z)) e, fun a o u e => s a _ (ne_of e h (by intro z; cases z)) e⟩
theorem But.free {g : Addr} {H H' : Hp} {xs : List V} (s : But g H H') (h : H' g = some (.lst xs)) {l : Addr} (e : H' l = none) : H l = none := by
  cases q : H l with
  | none => rfl
  | some o =>
    by_cases hl : l = g
    · subst hl; rw [h] at e; cases e
    · rw [s l o hl q] at e; cases e

/-! ### pure data: none, bools, ints, texts, tuples of such -/
mutual
inductive Tp (K : PySem.W.Frag) (H : Hp) : V → PyData → Prop
  | non : Tp K H .non .none
  | bl (b : Bool) : Tp K H (.bl b) (.bool b)
  | int (i : Int) : Tp K H (.int i) (.int i)
  | str (x : Str) : Tp K H (.str x) (.str x)
  | tup {a : Addr} {xs : List V} {ds : List PyData} (hs : SqT K H a xs) (ha : TpA K H xs ds) : Tp K H (.ref a) (.tuple ds)
inductive TpA (K : PySem.W.Frag) (H : Hp) : List V → List PyData → Prop
  | nil : TpA K H [] []
  | cons {v : V} {vs : List V} {d : PyData} {ds : List PyData} (h : Tp K H v d) (t : TpA K H vs ds) : TpA K H (v :: vs) (d :: ds)
end
section
variable {K : PySem.W.Frag} {H H' : Hp} {v : V} {d : PyData} {vs ws : List V} {ds es : List PyData}
mutual
theorem Tp.gr' (g : Gr H H') : ∀ (d : PyData) (v : V), Tp K H v d → Tp K H' v d
  | .none, _, h => by cases h; exact .non
  | .bool b, _, h => by cases h; exact .bl b
  | .int b, _, h => by cases h; exact .int b
  | .str b, _, h => by cases h; exact .str b
  | .list _, _, h => by cases h
  | .dict _, _, h => by cases h
  | .tuple ds, _, h => by
    cases h with
    | tup hs ha => exact .tup (g.sqT hs) (TpA.gr' g ds _ ha)
theorem TpA.gr' (g : Gr H H') : ∀ (ds : List PyData) (vs : List V), TpA K H vs ds → TpA K H' vs ds
  | [], _, h => by cases h; exact .nil
  | d :: ds, _, h => by
    cases h with
    | cons h1 h2 => exact .cons (Tp.gr' g d _ h1) (TpA.gr' g ds _ h2)
end
theorem Tp.gr (h : Tp K H v d) (g : Gr H H') : Tp K H' v d := Tp.gr' g d v h
theorem TpA.gr (h : TpA K H vs ds) (g : Gr H H') : TpA K H' vs ds := TpA.gr' g ds vs h
mutual
theorem Tp.dp' : ∀ (d : PyData) (v : V), Tp K H v d → Dp K H v d
  | .none, _, h => by cases h; exact .non
  | .bool b, _, h => by cases h; exact .bl b
  | .int b, _, h => by cases h; exact .int b
  | .str b, _, h => by cases h; exact .str b
  | .list _, _, h => by cases h
  | .dict _, _, h => by cases h
  | .tuple ds, _, h => by
    cases h with
    | tup hs ha => exact .tup hs (TpA.dp' ds _ ha)
theorem TpA.dp' : ∀ (ds : List PyData) (vs : List V), TpA K H vs ds → DpAll K H vs ds
  | [], _, h => by cases h; exact .nil
  | d :: ds, _, h => by
    cases h with
    | cons h1 h2 => exact .cons (Tp.dp' d _ h1) (TpA.dp' ds _ h2)
end
theorem Tp.dp (h : Tp K H v d) : Dp K H v d := Tp.dp' d v h
theorem TpA.dp (h : TpA K H vs ds) : DpAll K H vs ds := TpA.dp' ds vs h
theorem TpA.length : ∀ {vs : List V} {ds : List PyData}, TpA K H vs ds → vs.length = ds.length
  | _, _, .nil => rfl
  | _, _, .cons _ t => by rw [List.length_cons, List.length_cons, TpA.length t]
theorem TpA.append : ∀ {vs ws : List V} {ds es : List PyData}, TpA K H vs ds → TpA K H ws es → TpA K H (vs ++ ws) (ds ++ es)
  | _, _, _, _, .nil, h => h
  | _, _, _, _, .cons a t, h => .cons a (TpA.append t h)
theorem TpA.get : ∀ {vs : List V} {ds : List PyData} {i : Nat} {d : PyData}, TpA K H vs ds → ds[i]? = some d → ∃ v, vs[i]? = some v ∧ Tp K H v d
  | _, _, _, _, .nil, e => by simp at e
  | _, _, 0, _, .cons h _, e => by simp at e; subst e; exact ⟨_, rfl, h⟩
  | _, _, i + 1, d, .cons _ t, e => by
    obtain ⟨v, h1, h2⟩ := TpA.get (i := i) (d := d) t (by simpa using e)
    exact ⟨v, by simpa using h1, h2⟩
theorem TpA.getV : ∀ {vs : List V} {ds : List PyData} {i : Nat} {v : V}, TpA K H vs ds → vs[i]? = some v → ∃ d, ds[i]? = some d ∧ Tp K H v d
  | _, _, _, _, .nil, e => by simp at e
  | _, _, 0, _, .cons h _, e => by simp at e; subst e; exact ⟨_, rfl, h⟩
  | _, _, i + 1, v, .cons _ t, e => by
    obtain ⟨d, h1, h2⟩ := TpA.getV (i := i) (v := v) t (by simpa using e)
    exact ⟨d, by simpa using h1, h2⟩
theorem TpA.take : ∀ {vs : List V} {ds : List PyData} (n : Nat), TpA K H vs ds → TpA K H (vs.take n) (ds.take n)
  | _, _, 0, _ => .nil
  | _, _, _ + 1, .nil => .nil
  | _, _, n + 1, .cons h t => .cons h (TpA.take n t)
/-- a tuple's inversion -/
theorem Tp.tup_inv (h : Tp K H v (.tuple ds)) : ∃ a xs, v = .ref a ∧ SqT K H a xs ∧ TpA K H xs ds := by
  cases h with
  | tup hs ha => exact ⟨_, _, rfl, hs, ha⟩
theorem Tp.int_inv {i : Int} (h : Tp K H v (.int i)) : v = .int i := by cases h; rfl
theorem Tp.bool_inv {i : Bool} (h : Tp K H v (.bool i)) : v = .bl i := by cases h; rfl
theorem Tp.str_inv {i : Str} (h : Tp K H v (.str i)) : v = .str i := by cases h; rfl
theorem Tp.none_inv (h : Tp K H v .none) : v = .non := by cases h; rfl
/-- a scalar by its value -/
def scD : PyData → Option V
  | .none => some .non
  | .bool b => some (.bl b)
  | .int i => some (.int i)
  | .str x => some (.str x)
  | _ => none
theorem Tp.sc_inv {u : V} (h : Tp K H v d) (e : scD d = some u) : v = u := by
  cases h <;> cases e <;> rfl
theorem Tp.of_sc {u : V} (e : scD d = some u) : Tp K H u d := by
  cases d <;> cases e <;> constructor
end

/-! ### the state's data -/
inductive AV where
  | dat (d : PyData)
  | val (v : V)
def AvOk (K : PySem.W.Frag) (H : Hp) (v : V) : AV → Prop
  | .dat d => Tp K H v d
  | .val u => v = u
abbrev Cty := List (Option AV)
structure EnvD (K : PySem.W.Frag) (H : Hp) (σ : L2.St) (Γ : Cty) : Prop where
  len : σ.length = Γ.length
  at_ : ∀ (i : Nat) (A : AV), Γ[i]? = some (some A) → ∃ v, σ[i]? = some (some v) ∧ AvOk K H v A
section
variable {K : PySem.W.Frag} {H H' : Hp} {v : V} {d : PyData} {σ : L2.St} {Γ : Cty} {A : AV}
theorem AvOk.gr (h : AvOk K H v A) (g : Gr H H') : AvOk K H' v A := by
  cases A with
  | dat d => exact Tp.gr h g
  | val u => exact h
theorem EnvD.gr (h : EnvD K H σ Γ) (g : Gr H H') : EnvD K H' σ Γ := ⟨h.len, fun i A e => by
  obtain ⟨v, h1, h2⟩ := h.at_ i A e
  exact ⟨v, h1, h2.gr g⟩⟩
theorem EnvD.set (h : EnvD K H σ Γ) (i : Nat) (hv : AvOk K H v A) : EnvD K H (σ.set i (some v)) (Γ.set i (some A)) := by
  refine ⟨by rw [List.length_set, List.length_set, h.len], fun j B e => ?_⟩
  by_cases hj : i = j
  · subst hj
    by_cases hi : i < Γ.length
    · rw [List.getElem?_set_self hi] at e
      cases e
      exact ⟨v, List.getElem?_set_self (by rw [h.len]; exact hi), hv⟩
    · rw [List.getElem?_eq_none (by simpa using hi)] at e
      cases e
  · rw [List.getElem?_set_ne hj] at e
    rw [List.getElem?_set_ne hj]
    exact h.at_ j B e
theorem EnvD.setNone (h : EnvD K H σ Γ) (i : Nat) (o : Option V) : EnvD K H (σ.set i o) (Γ.set i none) := by
  refine ⟨by rw [List.length_set, List.length_set, h.len], fun j B e => ?_⟩
  by_cases hj : i = j
  · subst hj
    by_cases hi : i < Γ.length
    · rw [List.getElem?_set_self hi] at e
      cases e
    · rw [List.getElem?_eq_none (by simpa using hi)] at e
      cases e
  · rw [List.getElem?_set_ne hj] at e
    rw [List.getElem?_set_ne hj]
    exact h.at_ j B e
end

/-! ### what a pure expression evaluates to -/
def EvD (K : PySem.W.Frag) (te : TE) (Γ : Cty) (d : PyData) : Prop := ∀ σ H, EnvD K H σ Γ → ∀ Q : VK, (∀ v H', Same H H' → Tp K H' v d → Q v H') → te σ H Q
def EvB (K : PySem.W.Frag) (tt : TT) (Γ : Cty) (b : Bool) : Prop := ∀ σ H, EnvD K H σ Γ → ∀ Q : Bool → Hp → Prop, (∀ H', Same H H' → Q b H') → tt σ H Q
def EvA (K : PySem.W.Frag) (ta : TA) (Γ : Cty) (ds : List PyData) : Prop := ∀ σ H, EnvD K H σ Γ → ∀ Q : List V → Hp → Prop, (∀ vs H', Same H H' → TpA K H' vs ds → Q vs H') → ta σ H Q
section
variable {K : PySem.W.Frag} {Γ : Cty} {d e : PyData} {ds : List PyData} {ta tb te tc : TE} {t u : TT} {a : TA} {b c : Bool}
theorem EvD.is (h : EvD K te Γ d) (q : d = e) : EvD K te Γ e := q ▸ h
theorem EvB.is (h : EvB K t Γ b) (q : b = c) : EvB K t Γ c := q ▸ h
theorem ed_var {i : Nat} (h : Γ[i]? = some (some (.dat d))) : EvD K (tVar i) Γ d := fun σ H E Q q => by
  obtain ⟨v, h1, h2⟩ := E.at_ i _ h
  exact ⟨v, h1, q v H (Same.refl H) h2⟩
theorem ed_c {v : V} (h : scD d = some v) : EvD K (tC v) Γ d := fun σ H E Q q => q v H (Same.refl H) (Tp.of_sc h)
theorem ed_int {i : Int} : EvD K (tC (.int i)) Γ (.int i) := ed_c rfl
theorem ed_non : EvD K (tC .non) Γ .none := ed_c rfl
theorem ed_bl {i : Bool} : EvD K (tC (.bl i)) Γ (.bool i) := ed_c rfl
theorem ed_str {i : Str} : EvD K (tC (.str i)) Γ (.str i) := ed_c rfl
/-- two operands, then an operation on data -/
theorem ed_op {r : R2} {d1 d2 : PyData} (h1 : EvD K ta Γ d1) (h2 : EvD K tb Γ d2)
    (hr : ∀ x y H, Tp K H x d1 → Tp K H y d2 → ∀ Q : VK, (∀ v H', Same H H' → Tp K H' v d → Q v H') → r x y H Q) : EvD K (tOp r ta tb) Γ d := fun σ H E Q q =>
  h1 σ H E _ fun x H1 s1 t1 => h2 σ H1 (E.gr s1.gr) _ fun y H2 s2 t2 => hr x y H2 (t1.gr s2.gr) t2 Q fun v H' s3 tv => q v H' ((s1.trans s2).trans s3) tv
theorem ed_I0 {g : Int → Int → V} {i j : Int} (h1 : EvD K ta Γ (.int i)) (h2 : EvD K tb Γ (.int j)) (e : scD d = some (g i j)) : EvD K (tOp (rI0 g) ta tb) Γ d :=
  ed_op h1 h2 fun x y H hx hy Q q => ⟨i, j, hx.int_inv, hy.int_inv, q _ H (Same.refl H) (Tp.of_sc e)⟩
theorem ed_I {C : Int → Int → Prop} {g : Int → Int → V} {i j : Int} (h1 : EvD K ta Γ (.int i)) (h2 : EvD K tb Γ (.int j)) (hc : C i j) (e : scD d = some (g i j)) : EvD K (tOp (rI C g) ta tb) Γ d :=
  ed_op h1 h2 fun x y H hx hy Q q => ⟨i, j, hx.int_inv, hy.int_inv, hc, q _ H (Same.refl H) (Tp.of_sc e)⟩
theorem ed_eq {x y : V} {d1 d2 : PyData} (h1 : EvD K ta Γ d1) (h2 : EvD K tb Γ d2) (e1 : scD d1 = some x) (e2 : scD d2 = some y) (hs : scal x y = true) : EvD K (tOp rEq ta tb) Γ (.bool (decide (x = y))) :=
  ed_op h1 h2 fun u w H hx hy Q q => by
    cases hx.sc_inv e1; cases hy.sc_inv e2
    exact ⟨hs, q _ H (Same.refl H) (.bl _)⟩
theorem ed_ne {x y : V} {d1 d2 : PyData} (h1 : EvD K ta Γ d1) (h2 : EvD K tb Γ d2) (e1 : scD d1 = some x) (e2 : scD d2 = some y) (hs : scal x y = true) : EvD K (tOp rNe ta tb) Γ (.bool (!decide (x = y))) :=
  ed_op h1 h2 fun u w H hx hy Q q => by
    cases hx.sc_inv e1; cases hy.sc_inv e2
    exact ⟨hs, q _ H (Same.refl H) (.bl _)⟩
theorem ed_eqI {i j : Int} (h1 : EvD K ta Γ (.int i)) (h2 : EvD K tb Γ (.int j)) : EvD K (tOp rEq ta tb) Γ (.bool (decide (i = j))) :=
  (ed_eq h1 h2 rfl rfl rfl).is (by rw [decide_eq_decide.mpr (show (V.int i = V.int j) ↔ i = j from ⟨fun z => V.int.inj z, fun z => by rw [z]⟩)])
theorem ed_neI {i j : Int} (h1 : EvD K ta Γ (.int i)) (h2 : EvD K tb Γ (.int j)) : EvD K (tOp rNe ta tb) Γ (.bool (!decide (i = j))) :=
  (ed_ne h1 h2 rfl rfl rfl).is (by rw [decide_eq_decide.mpr (show (V.int i = V.int j) ↔ i = j from ⟨fun z => V.int.inj z, fun z => by rw [z]⟩)])
theorem ed_eqB {i j : Bool} (h1 : EvD K ta Γ (.bool i)) (h2 : EvD K tb Γ (.bool j)) : EvD K (tOp rEq ta tb) Γ (.bool (i == j)) :=
  (ed_eq h1 h2 rfl rfl rfl).is (by cases i <;> cases j <;> rfl)
theorem ed_neB {i j : Bool} (h1 : EvD K ta Γ (.bool i)) (h2 : EvD K tb Γ (.bool j)) : EvD K (tOp rNe ta tb) Γ (.bool (i != j)) :=
  (ed_ne h1 h2 rfl rfl rfl).is (by cases i <;> cases j <;> rfl)
theorem ed_eqS {i j : Str} (h1 : EvD K ta Γ (.str i)) (h2 : EvD K tb Γ (.str j)) : EvD K (tOp rEq ta tb) Γ (.bool (decide (i = j))) :=
  (ed_eq h1 h2 rfl rfl rfl).is (by rw [decide_eq_decide.mpr (show (V.str i = V.str j) ↔ i = j from ⟨fun z => V.str.inj z, fun z => by rw [z]⟩)])
/-- x is None -/
def isNoneD : PyData → Bool
  | .none => true
  | _ => false
theorem tp_none {H : Hp} {v : V} (h : Tp K H v d) : decide (v = .non) = isNoneD d := by
  cases h <;> first | rfl | exact decide_eq_false (fun z => nomatch z)
theorem ed_isN (h1 : EvD K ta Γ d) : EvD K (tIsN ta) Γ (.bool (isNoneD d)) := fun σ H E Q q =>
  h1 σ H E _ fun x H1 s1 t1 => by rw [tp_none t1]; exact q _ H1 s1 (.bl _)
theorem ed_notN (h1 : EvD K ta Γ d) : EvD K (tNotN ta) Γ (.bool (!isNoneD d)) := fun σ H E Q q =>
  h1 σ H E _ fun x H1 s1 t1 => by rw [tp_none t1]; exact q _ H1 s1 (.bl _)
/-- t[i] -/
theorem ed_ix {i : Int} (h1 : EvD K ta Γ (.tuple ds)) (h2 : EvD K tb Γ (.int i)) (h0 : 0 ≤ i) (e : ds[i.toNat]? = some d) : EvD K (tOp (rIxT K) ta tb) Γ d :=
  ed_op h1 h2 fun x y H hx hy Q q => by
    obtain ⟨a, xs, rfl, hs, ha⟩ := hx.tup_inv
    obtain ⟨v, hv, tv⟩ := ha.get e
    cases hy.int_inv
    refine ⟨a, xs, i, v, rfl, rfl, hs, ?_, q v H (Same.refl H) tv⟩
    have := atI_nat (j := i.toNat) hv
    rwa [Int.toNat_of_nonneg h0] at this
/-- (a, b, ..) -/
theorem ea_nil : EvA K tNil Γ [] := fun σ H E Q q => q [] H (Same.refl H) .nil
theorem ea_cons (h1 : EvD K ta Γ d) (h2 : EvA K a Γ ds) : EvA K (tCons ta a) Γ (d :: ds) := fun σ H E Q q =>
  h1 σ H E _ fun x H1 s1 t1 => h2 σ H1 (E.gr s1.gr) _ fun xs H2 s2 t2 => q _ H2 (s1.trans s2) (.cons (t1.gr s2.gr) t2)
theorem ed_tup (h : EvA K a Γ ds) (hl : ds.length ≤ 100000) : EvD K (tTup a) Γ (.tuple ds) := fun σ H E Q q =>
  h σ H E _ fun xs H1 s1 t1 => ⟨by rw [t1.length]; exact Nat.le_trans hl (by decide), fun p hp =>
    q _ _ (s1.trans (same_new hp)) (.tup (SqT.of upd_same) (t1.gr (same_new hp).gr))⟩
/-- tests -/
theorem eb_val (h : EvD K te Γ (.bool b)) : EvB K (tB te) Γ b := fun σ H E Q q => h σ H E _ fun v H1 s1 t1 => ⟨b, t1.bool_inv, q H1 s1⟩
theorem eb_test (h : EvD K te Γ (.bool b)) : EvB K (tTest te) Γ b := fun σ H E Q q => h σ H E _ fun v H1 s1 t1 => ⟨b, t1.bool_inv, q H1 s1⟩
theorem eb_not (h : EvB K t Γ b) : EvB K (tNot t) Γ (!b) := fun σ H E Q q => h σ H E _ fun H1 s1 => q H1 s1
theorem eb_andT (h1 : EvB K t Γ true) (h2 : EvB K u Γ b) : EvB K (tAnd t u) Γ b := fun σ H E Q q =>
  h1 σ H E _ fun H1 s1 => iteT (h2 σ H1 (E.gr s1.gr) _ fun H2 s2 => q H2 (s1.trans s2))
theorem eb_andF (h1 : EvB K t Γ false) : EvB K (tAnd t u) Γ false := fun σ H E Q q => h1 σ H E _ fun H1 s1 => iteF (q H1 s1)
theorem eb_orT (h1 : EvB K t Γ true) : EvB K (tOr t u) Γ true := fun σ H E Q q => h1 σ H E _ fun H1 s1 => iteT (q H1 s1)
theorem eb_orF (h1 : EvB K t Γ false) (h2 : EvB K u Γ b) : EvB K (tOr t u) Γ b := fun σ H E Q q =>
  h1 σ H E _ fun H1 s1 => iteF (h2 σ H1 (E.gr s1.gr) _ fun H2 s2 => q H2 (s1.trans s2))
theorem eb_and (h1 : EvB K t Γ b) (h2 : b = true → EvB K u Γ c) : EvB K (tAnd t u) Γ (b && c) := by
  cases b with
  | true => exact eb_andT h1 (h2 rfl)
  | false => exact eb_andF h1
theorem eb_or (h1 : EvB K t Γ b) (h2 : b = false → EvB K u Γ c) : EvB K (tOr t u) Γ (b || c) := by
  cases b with
  | true => exact eb_orT h1
  | false => exact eb_orF h1 (h2 rfl)
/-- the same as values -/
theorem ed_andT (h1 : EvD K ta Γ (.bool true)) (h2 : EvD K tb Γ d) : EvD K (tAndV ta tb) Γ d := fun σ H E Q q =>
  h1 σ H E _ fun v H1 s1 t1 => ⟨true, t1.bool_inv, iteT (h2 σ H1 (E.gr s1.gr) _ fun v H2 s2 => q v H2 (s1.trans s2))⟩
theorem ed_andF (h1 : EvD K ta Γ (.bool false)) : EvD K (tAndV ta tb) Γ (.bool false) := fun σ H E Q q =>
  h1 σ H E _ fun v H1 s1 t1 => ⟨false, t1.bool_inv, iteF (q _ H1 s1 (.bl _))⟩
theorem ed_orT (h1 : EvD K ta Γ (.bool true)) : EvD K (tOrV ta tb) Γ (.bool true) := fun σ H E Q q =>
  h1 σ H E _ fun v H1 s1 t1 => ⟨true, t1.bool_inv, iteT (q _ H1 s1 (.bl _))⟩
theorem ed_orF (h1 : EvD K ta Γ (.bool false)) (h2 : EvD K tb Γ d) : EvD K (tOrV ta tb) Γ d := fun σ H E Q q =>
  h1 σ H E _ fun v H1 s1 t1 => ⟨false, t1.bool_inv, iteF (h2 σ H1 (E.gr s1.gr) _ fun v H2 s2 => q v H2 (s1.trans s2))⟩
theorem ed_and (h1 : EvD K ta Γ (.bool b)) (h2 : b = true → EvD K tb Γ (.bool c)) : EvD K (tAndV ta tb) Γ (.bool (b && c)) := by
  cases b with
  | true => exact ed_andT h1 (h2 rfl)
  | false => exact ed_andF h1
theorem ed_or (h1 : EvD K ta Γ (.bool b)) (h2 : b = false → EvD K tb Γ (.bool c)) : EvD K (tOrV ta tb) Γ (.bool (b || c)) := by
  cases b with
  | true => exact ed_orT h1
  | false => exact ed_orF h1 (h2 rfl)
theorem ed_not (h1 : EvD K ta Γ (.bool b)) : EvD K (tNotV ta) Γ (.bool (!b)) := fun σ H E Q q =>
  h1 σ H E _ fun v H1 s1 t1 => ⟨b, t1.bool_inv, q _ H1 s1 (.bl _)⟩
/-- a if t else b -/
theorem ed_ifT (h : EvB K t Γ true) (h1 : EvD K ta Γ d) : EvD K (tIf t ta tb) Γ d := fun σ H E Q q =>
  h σ H E _ fun H1 s1 => iteT (h1 σ H1 (E.gr s1.gr) _ fun v H2 s2 => q v H2 (s1.trans s2))
theorem ed_ifF (h : EvB K t Γ false) (h1 : EvD K tb Γ d) : EvD K (tIf t ta tb) Γ d := fun σ H E Q q =>
  h σ H E _ fun H1 s1 => iteF (h1 σ H1 (E.gr s1.gr) _ fun v H2 s2 => q v H2 (s1.trans s2))
theorem ed_if (h : EvB K t Γ b) (h1 : b = true → EvD K ta Γ d) (h2 : b = false → EvD K tb Γ d) : EvD K (tIf t ta tb) Γ d := by
  cases b with
  | true => exact ed_ifT h (h1 rfl)
  | false => exact ed_ifF h (h2 rfl)
/-- int(..) of an int, of a bool -/
theorem ed_intI {i : Int} (h : EvD K ta Γ (.int i)) : EvD K (tCB (fun xs H Q => (∃ i, xs = [.int i] ∧ Q (.int i) H) ∨ ∃ k, xs = [.bl k] ∧ Q (.int (if k then 1 else 0)) H) (tCons ta tNil)) Γ (.int i) := fun σ H E Q q =>
  h σ H E _ fun v H1 s1 t1 => .inl ⟨i, by rw [t1.int_inv], q _ H1 s1 (.int i)⟩
theorem ed_intB (h : EvD K ta Γ (.bool b)) : EvD K (tCB (fun xs H Q => (∃ i, xs = [.int i] ∧ Q (.int i) H) ∨ ∃ k, xs = [.bl k] ∧ Q (.int (if k then 1 else 0)) H) (tCons ta tNil)) Γ (.int (if b then 1 else 0)) := fun σ H E Q q =>
  h σ H E _ fun v H1 s1 t1 => .inr ⟨b, by rw [t1.bool_inv], q _ H1 s1 (.int _)⟩
/-- isinstance of a built-in type -/
def tyD : PyData → String
  | .none => "NoneType"
  | .bool _ => "bool"
  | .int _ => "int"
  | .str _ => "str"
  | .tuple _ => "tuple"
  | .list _ => "list"
  | .dict _ => "dict"
theorem tp_ty {H : Hp} {v : V} (h : Tp K H v d) : TyX K H v (.type (tyD d)) := by
  cases h with
  | non => exact .base .non
  | bl b => exact .base (.bl _)
  | int i => exact .base (.int _)
  | str x => exact .base (.str _)
  | tup hs ha =>
    rcases hs with (h | ⟨o, h⟩) | ⟨o, its, n, hk, hc, _⟩
    · exact .base (.tup h)
    · exact .fTuple h
    · exact .kTuple hk hc
theorem ed_isi {n : String} (h : EvD K ta Γ d) (hk : kitB (tyD d) n = some b) : EvD K (tCB (rIsi K) (tCons ta (tCons (tC (.ty n)) tNil))) Γ (.bool b) := fun σ H E Q q =>
  h σ H E _ fun v H1 s1 t1 => ⟨v, .ty n, _, _, b, rfl, .ty n, tp_ty t1, kit_ty hk, q _ H1 s1 (.bl b)⟩
/-- len of a tuple -/
theorem ed_len (h : EvD K ta Γ (.tuple ds)) : EvD K (tCB (fun xs H Q => ∃ p ys, xs = [.ref p] ∧ (SqL K H p ys ∨ SqT K H p ys) ∧ Q (.int ys.length) H) (tCons ta tNil)) Γ (.int ds.length) := fun σ H E Q q =>
  h σ H E _ fun v H1 s1 t1 => by
    obtain ⟨a, xs, rfl, hs, ha⟩ := t1.tup_inv
    refine ⟨a, xs, rfl, .inr hs, ?_⟩
    rw [ha.length]
    exact q _ H1 s1 (.int _)
end
end Hw

set_option Elab.async false
set_option linter.all false
set_option maxRecDepth 100000
set_option maxHeartbeats 4000000
/-! H1: enumerate of a tuple; statements over pure data; pure defs. -/
namespace Hw
open PySem PySem.Spec PyProof.Rows L2

/-! ### enumerate(t), one argument -/
set_option maxHeartbeats 1000000 in
theorem enum1_new {v : Value} {ob : Obj} {HH : Heap → Prop} (B : Begins v ob HH) :
    Meets (Builtin.«enumerate.__new__» ⟨[.type "enumerate", v], []⟩) (fun _ R st => HH st.heap ∧
      R (.ok (.ret (.ref (st.heap.push ob).objs.size))) { st with heap := (st.heap.push ob).push { cls := .type "enumerate", data := .fields #[.none, .bool false, .ref st.heap.objs.size, rawInt 0, .none, .none] } }) :=
  .of_wp fun prog w A R st hst => by
    obtain ⟨hp, gg, dd, tt, oo⟩ := st
    obtain ⟨hv, hR⟩ := hst
    have hsub := sub_enumerate
    have it1 : ∀ {A' : Around} {E : Value → Shared → Prop} {Q : Value → Shared → Prop}, Q (.ref hp.objs.size) ⟨hp.push ob, gg, dd, tt, oo⟩ → wpAny (model prog w) A' (pyIter v) Q E ⟨hp, gg, dd, tt, oo⟩ :=
      fun q => B.iter prog w _ _ ⟨hp, gg, dd, tt, oo⟩ _ hv q
    wp_walk using it1
    refine wpAny_stack_any fun sk => wpAny_pure ?_
    split
    · rename_i c _ _ _ _ _
      cases (c == Value.type "enumerate")
      all_goals
        wp_walk using it1
        exact ⟨_, rfl, hR⟩
    · wp_walk using it1
      exact ⟨_, rfl, hR⟩
theorem enum1_call {prog : Program} {w : World} {A : Around} {E : Value → Shared → Prop} {s : Shared} {v : Value} {ob : Obj} {HH : Heap → Prop} {Q : Value → Shared → Prop} (B : Begins v ob HH) (hv : HH s.heap)
    (hQ : ∀ h', IsEnum h' (s.heap.objs.size + 1) s.heap.objs.size 0 .none → h'.get? s.heap.objs.size = some ob → (∀ b o, s.heap.get? b = some o → h'.get? b = some o) → Q (.ref (s.heap.objs.size + 1)) { s with heap := h' }) :
    wpAny (model prog w) A (call (.type "enumerate") [v]) Q E s := by
  refine callType_new F.called_enumerate (by decide) (F.typeCall_enumerate_1 _) (F.newCall_enumerate_1 _) (fun z => F.args_object_init_2 z _) F.entry_enumerate_new (enum1_new B) ⟨hv, ?_⟩
  have z1 : (s.heap.push ob).objs.size = s.heap.objs.size + 1 := Heap.size_push ..
  have z2 := Heap.get?_push_size (s.heap.push ob) (o := { cls := .type "enumerate", data := .fields #[.none, .bool false, .ref s.heap.objs.size, rawInt 0, .none, .none] }) rfl
  show _ ∧ _
  rw [z1] at z2 ⊢
  exact ⟨⟨_, z2, rfl⟩, hQ _ z2 (Heap.get?_push_of_some _ (Heap.get?_push_size _ B.free)) fun b o x => Heap.get?_push_of_some _ (Heap.get?_push_of_some _ x)⟩

/-- the tuple at a, each item in a new pair with its place -/
def ItE (K : PySem.W.Frag) (a : Addr) : It where
  go i H := ∃ (xs : List V) (x : V), SqT K H a xs ∧ xs[i]? = some x
  yld i H v H' := ∃ T x, v = .ref T ∧ H T = none ∧ H' = upd H T (.tup [.int (i : Nat), x]) ∧ ∀ ys, SqT K H a ys → ys[i]? = some x
  stop i H := ∃ xs : List V, SqT K H a xs ∧ xs.length = i
theorem turn_enumT {P : Program} {w : World} {K : PySem.W.Frag} {elts : List Expr} {kk : Nat} {tpos : Pos} (a e it : Addr) :
    Turn P w K (.Tuple elts kk tpos) (ItE K a) [e, it] e (fun i h => (∃ old, IsEnum h e it ((i : Nat) : Int) old) ∧ h.IsTupleIter it a i ∧ e ≠ it ∧ a ≠ it ∧ a ≠ e) where
  mem := List.mem_cons_self
  obj := fun i h ⟨⟨old, he⟩, ⟨o, ho, hc, hd⟩, _⟩ b hb => by
    rcases List.mem_cons.mp hb with z | z
    · subst z; exact ⟨_, he, fun v q => nomatch q⟩
    · have z2 := List.mem_singleton.mp z
      subst z2
      exact ⟨o, ho, fun v q => by rw [hd] at q; cases q⟩
  keep := fun i h h' ⟨⟨old, he⟩, hi, hne⟩ k => ⟨⟨old, k e (by simp) _ he⟩, hi.at fun o q => k it (by simp) o q, hne⟩
  item := by
    rintro X rfl rfl rfl hc i pins s σ H E I hf ⟨⟨old, he⟩, hit, hne, ha1, ha2⟩ ⟨xs, x, hq, hx⟩
    obtain ⟨its, rv, p, hz⟩ := I.tuple hq
    obtain ⟨u, hu, ru⟩ := rv.get hx
    have le : e < s.heap.objs.size := Heap.lt_size he
    have li : it < s.heap.objs.size := by obtain ⟨_, q, _⟩ := hit; exact Heap.lt_size q
    have hi : i < its.toArray.size := by
      have := (List.getElem?_eq_some_iff.mp hu).1
      simpa using this
    have D := Draws.tuple (prog := X.prog) (w := X.w) (A := X.A.in1) (I.ok.hd hc) it a ha1 its.toArray
    have enot : e ∉ [it, a] := by
      intro z
      rcases List.mem_cons.mp z with z | z
      · exact hne z
      · exact ha2 (List.mem_singleton.mp z).symm
    refine wpAny_pyNext_enum_itemC D he ⟨hit, p⟩ hi hne enot fun y h' tk hy ho st' hT hsz hk => ?_
    have ey : y = u := by
      have z : its[i]? = some y := by simpa using hy
      rw [hu] at z; exact (Option.some.inj z).symm
    subst ey
    refine ⟨_, rfl, wpAny_letOwnedTupleGo_enum (s := { s with heap := h', toks := tk + 1 }) ho fun h2 he2 sb => ?_⟩
    have hT2 := (sb.2 _ (Nat.ne_of_gt le)).trans hT
    have new : ObjOk X.prog X.w (upd H s.heap.objs.size (.tup [.int (i : Nat), x])) h2 s.heap.objs.size (.tup [.int (i : Nat), x]) :=
      ⟨by show 2 ≤ sizeLine; decide, [.int i tk, y], .cons ⟨_, rfl⟩ (.cons ru .nil), _, hT2, rfl, _, rfl⟩
    have I1 : Inv X pins σ (upd H s.heap.objs.size (.tup [.int (i : Nat), x])) { s with heap := h2, toks := tk + 1 } :=
      I.turnedNew (ch := [e, it]) (fun b ob hb q => (sb.2 b fun z => hb (by simp [z])).trans (hk b ob (fun z => hb (by simp [z])) (fun z => hb (by simp [z])) q)) hf (Nat.le_refl _) new
    refine ⟨.ref s.heap.objs.size, _, I1, rfl, ⟨_, x, rfl, I.hok.fresh (Nat.le_refl _), rfl, fun ys hy => by rw [I.tuple_inj hy hq]; exact hx⟩, ⟨⟨y, ?_⟩, st'.1.at fun o q => (sb.2 it (Ne.symm hne)).trans q, hne, ha1, ha2⟩, fun b hb => ?_⟩
    · rw [show ((i + 1 : Nat) : Int) = (i : Int) + 1 by omega]; exact he2
    · have lb : b < s.heap.objs.size := by
        rcases List.mem_cons.mp hb with z | z
        · rw [z]; exact le
        · rw [List.mem_singleton.mp z]; exact li
      rw [upd_ne (Nat.ne_of_lt lb)]
      exact (hf b hb).1
  done := by
    rintro X rfl rfl rfl hc i pins s σ H E I hf ⟨⟨old, he⟩, hit, hne, ha1, ha2⟩ ⟨xs, hq, hx⟩
    obtain ⟨its, rv, p, hz⟩ := I.tuple hq
    obtain ⟨f0, f1, f2, f3, f4, f5⟩ := hf it (by simp)
    have hl : its.toArray.size = i := by
      have z := rv.length
      rw [List.size_toArray]; omega
    have D := Draws.tuple (prog := X.prog) (w := X.w) (A := X.A.in1) (I.ok.hd hc) it a ha1 its.toArray
    rw [hl] at D
    exact wpAny_pyNext_enum_endD D he ⟨hit, p⟩ fun h' eb => ⟨rfl, I.turned (t' := s.toks) (fun b o hb q => eb b o hb q) f0 f1 f3 f4 f5⟩
  self := fun A i s Q E ⟨⟨_, he⟩, _⟩ h => wpAny_pyIter_enum he h
def iEnumT (K : PySem.W.Frag) (ta : TA) : TI := fun σ H R => ta σ H fun vs H1 => ∃ a xs, vs = [.ref a] ∧ SqT K H1 a xs ∧ R (ItE K a) H1
theorem pi_enumT {X : Cx} {e : Expr} {ta : TA} {p pos tpos : Pos} {elts : List Expr} {kk : Nat} (hg : Gl X "enumerate") (hm : X.mg "enumerate" = none) (ha : PA X [e] ta) (hs : starEach [e] X.env = [(false, eval e X.env)] := by rfl) :
    PI X (.Tuple elts kk tpos) (.Call (.Name "enumerate" p) [e] [] pos) (iEnumT X.K ta) := ⟨fun pins s σ H R I h => by
  refine Call_ (ld_blt I hg hm boot_enumerate (PyProof.Rows.callWith_type1 (thn (ha.run pos pins s σ H _ I h) fun us s1 ⟨vs, H1, I1, r1, a, xs, ex, hq, q⟩ => ?_) hs rfl))
  subst ex
  obtain ⟨u, rfl, r⟩ := vals1 r1
  cases r
  obtain ⟨its, rv, p', hz⟩ := I1.tuple hq
  have la : a < s1.heap.objs.size := by obtain ⟨_, q, _⟩ := p'; exact Heap.lt_size q
  refine enum1_call (begins_tuple a its.toArray) p' fun h' he hit hk => wpAny_pyIter_enum he ?_
  refine ⟨s1.heap.objs.size + 1, [s1.heap.objs.size + 1, s1.heap.objs.size], _, _, H1, rfl, I1.kept (t' := s1.toks) hk, turn_enumT a (s1.heap.objs.size + 1) s1.heap.objs.size,
    ⟨⟨.none, he⟩, ⟨_, hit, rfl, rfl⟩, Nat.succ_ne_self _, Nat.ne_of_lt la, Nat.ne_of_lt (Nat.lt_succ_of_lt la)⟩, fun b hb => ?_, q⟩
  have hle : s1.heap.objs.size ≤ b := by
    rcases List.mem_cons.mp hb with z | z
    · rw [z]; exact Nat.le_add_right _ _
    · rw [List.mem_singleton.mp z]; exact Nat.le_refl _
  exact I1.fpOk hle (I1.hok.fresh hle)⟩
theorem walk_enumT {K : PySem.W.Frag} {a : Addr} {xs : List V} : Walk (ItE K a) xs.length (fun H => SqT K H a xs) (YPair (fun i => some (.int (i : Nat))) (fun i => xs[i]?)) where
  goes i H hi q := ⟨xs, xs[i], q, by simp [hi]⟩
  stops H q := ⟨xs, q, rfl⟩
  yields := by
    rintro i H x H' hi q ⟨T, y, h1, h2, h3, h4⟩
    exact ⟨T, .int (i : Nat), y, h1, h2, h3, rfl, h4 xs q⟩

/-! ### statements -/
/-- a body that falls through; that hands back d -/
def RunF (K : PySem.W.Frag) (t : TS) (Γ Γ' : Cty) : Prop := ∀ (D : Ends) σ H, EnvD K H σ Γ → (∀ σ' H', Same H H' → EnvD K H' σ' Γ' → D.nx σ' H') → t D σ H
def RunD (K : PySem.W.Frag) (t : TS) (Γ : Cty) (d : PyData) : Prop := ∀ (D : Ends) σ H, EnvD K H σ Γ → (∀ v H', Same H H' → Tp K H' v d → D.rt v H') → t D σ H
section
variable {K : PySem.W.Frag} {Γ Γ' Γ'' : Cty} {d e : PyData} {ds : List PyData} {ta tb te tc : TE} {t u z : TS} {c : TT} {b : Bool} {a : TA}
theorem RunD.is (h : RunD K t Γ d) (q : d = e) : RunD K t Γ e := q ▸ h
theorem rf_next : RunF K tNext Γ Γ := fun D σ H E k => k σ H (Same.refl H) E
theorem rf_asg {i : Nat} (h : EvD K te Γ d) : RunF K (tAsg te (gName i)) Γ (Γ.set i (some (.dat d))) := fun D σ H E k =>
  h σ H E _ fun v H1 s1 t1 => k _ H1 s1 ((E.gr s1.gr).set i t1)
theorem rf_seq (h : RunF K t Γ Γ') (h2 : RunF K u Γ' Γ'') : RunF K (tSeq t u) Γ Γ'' := fun D σ H E k =>
  h _ σ H E fun σ1 H1 s1 E1 => h2 D σ1 H1 E1 fun σ2 H2 s2 E2 => k σ2 H2 (s1.trans s2) E2
theorem rd_seq (h : RunF K t Γ Γ') (h2 : RunD K u Γ' d) : RunD K (tSeq t u) Γ d := fun D σ H E k =>
  h _ σ H E fun σ1 H1 s1 E1 => h2 D σ1 H1 E1 fun v H2 s2 t2 => k v H2 (s1.trans s2) t2
theorem rd_ret (h : EvD K te Γ d) : RunD K (tRet te) Γ d := fun D σ H E k => h σ H E _ k
theorem rd_ifT (h : EvB K c Γ true) (h1 : RunD K t Γ d) : RunD K (tIfS c t u) Γ d := fun D σ H E k =>
  h σ H E _ fun H1 s1 => iteT (h1 D σ H1 (E.gr s1.gr) fun v H2 s2 => k v H2 (s1.trans s2))
theorem rd_ifF (h : EvB K c Γ false) (h1 : RunD K u Γ d) : RunD K (tIfS c t u) Γ d := fun D σ H E k =>
  h σ H E _ fun H1 s1 => iteF (h1 D σ H1 (E.gr s1.gr) fun v H2 s2 => k v H2 (s1.trans s2))
theorem rf_ifT (h : EvB K c Γ true) (h1 : RunF K t Γ Γ') : RunF K (tIfS c t u) Γ Γ' := fun D σ H E k =>
  h σ H E _ fun H1 s1 => iteT (h1 D σ H1 (E.gr s1.gr) fun v H2 s2 => k v H2 (s1.trans s2))
theorem rf_ifF (h : EvB K c Γ false) (h1 : RunF K u Γ Γ') : RunF K (tIfS c t u) Γ Γ' := fun D σ H E k =>
  h σ H E _ fun H1 s1 => iteF (h1 D σ H1 (E.gr s1.gr) fun v H2 s2 => k v H2 (s1.trans s2))
/-- if c: return .. ; the rest -/
theorem rd_sT (h : EvB K c Γ true) (h1 : RunD K t Γ d) : RunD K (tSeq (tIfS c t u) z) Γ d := fun D σ H E k => rd_ifT h h1 _ σ H E k
theorem rd_sF (h : EvB K c Γ false) (h1 : RunF K u Γ Γ') (h2 : RunD K z Γ' d) : RunD K (tSeq (tIfS c t u) z) Γ d := rd_seq (rf_ifF h h1) h2
theorem rd_skip (h : EvB K c Γ false) (h2 : RunD K z Γ d) : RunD K (tSeq (tIfS c t tNext) z) Γ d := rd_sF h rf_next h2
theorem rf_drop (h : EvD K te Γ d) : RunF K (tDrop te) Γ Γ := fun D σ H E k => h σ H E _ fun v H1 s1 t1 => k σ H1 s1 (E.gr s1.gr)
/-- what a target does with data -/
def TgD (K : PySem.W.Frag) (g : TG) (Γ : Cty) (d : PyData) (Γ' : Cty) : Prop := ∀ v σ H, EnvD K H σ Γ → Tp K H v d → ∀ Q : L2.St → Hp → Prop, (∀ σ', EnvD K H σ' Γ' → Q σ' H) → g v σ H Q
def TgsD (K : PySem.W.Frag) (g : TGs) (Γ : Cty) (ds : List PyData) (Γ' : Cty) : Prop := ∀ vs σ H, EnvD K H σ Γ → TpA K H vs ds → ∀ Q : L2.St → Hp → Prop, (∀ σ', EnvD K H σ' Γ' → Q σ' H) → g vs σ H Q
theorem tg_name {i : Nat} : TgD K (gName i) Γ d (Γ.set i (some (.dat d))) := fun v σ H E hv Q q => q _ (E.set i hv)
theorem tgs_nil : TgsD K gNil Γ [] Γ := fun vs σ H E hv Q q => by cases hv; exact ⟨rfl, q σ E⟩
theorem tgs_cons {g : TG} {gs : TGs} (h : TgD K g Γ d Γ') (h2 : TgsD K gs Γ' ds Γ'') : TgsD K (gCons g gs) Γ (d :: ds) Γ'' := fun vs σ H E hv Q q => by
  cases hv with
  | cons h1 ht => exact ⟨_, _, rfl, h _ σ H E h1 _ fun σ1 E1 => h2 _ σ1 H E1 ht Q q⟩
theorem tg_tup {n : Nat} {gs : TGs} (h : TgsD K gs Γ ds Γ') (hn : ds.length = n) : TgD K (gTup K n gs) Γ (.tuple ds) Γ' := fun v σ H E hv Q q => by
  obtain ⟨a, xs, rfl, hs, ha⟩ := hv.tup_inv
  exact ⟨a, xs, rfl, hs, by rw [ha.length, hn], h xs σ H E ha Q q⟩
theorem rf_tg {g : TG} (h : EvD K te Γ d) (hg : TgD K g Γ d Γ') : RunF K (tAsg te g) Γ Γ' := fun D σ H E k =>
  h σ H E _ fun v H1 s1 t1 => hg v σ H1 (E.gr s1.gr) t1 _ fun σ' E' => k σ' H1 s1 E'
/-- x, y = a, b -/
theorem rf_par {i j : Nat} (h : EvA K a Γ [d, e]) : RunF K (tPar i j a) Γ ((Γ.set i (some (.dat d))).set j (some (.dat e))) := fun D σ H E k =>
  h σ H E _ fun vs H1 s1 t1 => by
    cases t1 with
    | cons h1 t1 =>
      cases t1 with
      | cons h2 t2 =>
        cases t2
        exact ⟨_, _, rfl, k _ H1 s1 (((E.gr s1.gr).set (A := .dat d) i h1).set (A := .dat e) j h2)⟩
theorem rf_par3 {i j l : Nat} {f : PyData} (h : EvA K a Γ [d, e, f]) : RunF K (tPar3 i j l a) Γ (((Γ.set i (some (.dat d))).set j (some (.dat e))).set l (some (.dat f))) := fun D σ H E k =>
  h σ H E _ fun vs H1 s1 t1 => by
    cases t1 with
    | cons h1 t1 =>
      cases t1 with
      | cons h2 t2 =>
        cases t2 with
        | cons h3 t3 =>
          cases t3
          exact ⟨_, _, _, rfl, k _ H1 s1 ((((E.gr s1.gr).set (A := .dat d) i h1).set (A := .dat e) j h2).set (A := .dat f) l h3)⟩
end

/-! ### pure defs -/
/-- data in, data out, by the relation R; the heap only grows -/
def spR (K : PySem.W.Frag) (R : List PyData → PyData → Prop) : Sp := fun vs H Q _ => ∃ ds d, TpA K H vs ds ∧ R ds d ∧ ∀ v H', Same H H' → Tp K H' v d → Q v H'
def ctx0 (n : Nat) (ds : List PyData) : Cty := ds.map (fun d => some (AV.dat d)) ++ List.replicate (n - ds.length) none
theorem env0D {K : PySem.W.Frag} {H : Hp} {vs : List V} {ds : List PyData} {N : List Str} (h : TpA K H vs ds) : EnvD K H (L2.start N vs) (ctx0 N.length ds) := by
  have hl := h.length
  refine ⟨by unfold L2.start ctx0; simp [hl], fun i A e => ?_⟩
  unfold ctx0 at e
  unfold L2.start
  by_cases hi : i < ds.length
  · rw [List.getElem?_append_left (by simpa using hi), List.getElem?_map] at e
    rw [List.getElem?_append_left (by simpa [hl] using hi), List.getElem?_map]
    obtain ⟨d, hd⟩ : ∃ d, ds[i]? = some d := ⟨ds[i], by simp [hi]⟩
    obtain ⟨v, hv, tv⟩ := h.get hd
    rw [hd] at e
    cases e
    exact ⟨v, by rw [hv]; rfl, tv⟩
  · rw [List.getElem?_append_right (by simpa using hi), List.getElem?_replicate] at e
    split at e <;> cases e
theorem ed_call {K : PySem.W.Frag} {Γ : Cty} {R : List PyData → PyData → Prop} {E : XK} {a : TA} {ds : List PyData} {d : PyData} (h : EvA K a Γ ds) (hr : R ds d) : EvD K (tCall (spR K R) [] E a) Γ d := fun σ H En Q q =>
  h σ H En _ fun vs H1 s1 t1 => ⟨ds, d, by rw [List.append_nil]; exact t1, hr, fun v H2 s2 t2 => q v H2 (s1.trans s2) t2⟩
/-- a pure def, by what its body runs to -/
theorem ok_pure {P : Program} {w : World} {K : PySem.W.Frag} {mg : Str → Option Value} {base : Heap} {x qual : Str} {st : Stmt} {f : Addr} {fd : FuncData} {N ps : List Str} {k : Nat} {R : List PyData → PyData → Prop}
    (F : Fun K x qual st f fd) (S : FnScope N ps (defScope st)) (hlen : ∀ ds d, R ds d → ds.length = ps.length)
    (body : ∀ (cdv : Value) (A : Around) (outer : List Env) (s : Shared) (H : Hp) (E : XK), Room k (A.deeper (envOfC qual (defScope st) s.heap.objs.size f cdv)) → ∀ ds d, R ds d →
      ∃ t, PSs (cxOf CX0 P w K mg base N qual (defScope st) f cdv A outer s H E).nox (defBody st) t ∧ RunD K t (ctx0 N.length ds) d) : FnOk P w K mg base CX0 (k + 1) f fd ps (spR K R) := by
  refine F.ok S (fun vs H Q E h => ?_) (fun cdv A outer s H vs Q E hr h => ?_)
  · obtain ⟨ds, d, h1, h2, _⟩ := h
    rw [h1.length]; exact hlen ds d h2
  · obtain ⟨ds, d, h1, h2, q⟩ := h
    obtain ⟨t, p, r⟩ := body cdv A outer s H E hr ds d h2
    exact ⟨t, p, r _ _ H (env0D h1) q⟩
/-- .. that hands back None at its end -/
theorem ok_chk {P : Program} {w : World} {K : PySem.W.Frag} {mg : Str → Option Value} {base : Heap} {x qual : Str} {st : Stmt} {f : Addr} {fd : FuncData} {N ps : List Str} {k : Nat} {R : List PyData → PyData → Prop}
    (F : Fun K x qual st f fd) (S : FnScope N ps (defScope st)) (hlen : ∀ ds d, R ds d → ds.length = ps.length ∧ d = .none)
    (body : ∀ (cdv : Value) (A : Around) (outer : List Env) (s : Shared) (H : Hp) (E : XK), Room k (A.deeper (envOfC qual (defScope st) s.heap.objs.size f cdv)) → ∀ ds d, R ds d →
      ∃ t Γ', PSs (cxOf CX0 P w K mg base N qual (defScope st) f cdv A outer s H E).nox (defBody st) t ∧ RunF K t (ctx0 N.length ds) Γ') : FnOk P w K mg base CX0 (k + 1) f fd ps (spR K R) := by
  refine F.ok S (fun vs H Q E h => ?_) (fun cdv A outer s H vs Q E hr h => ?_)
  · obtain ⟨ds, d, h1, h2, _⟩ := h
    rw [h1.length]; exact (hlen ds d h2).1
  · obtain ⟨ds, d, h1, h2, q⟩ := h
    obtain ⟨t, Γ', p, r⟩ := body cdv A outer s H E hr ds d h2
    have e := (hlen ds d h2).2
    subst e
    exact ⟨t, p, r _ _ H (env0D h1) fun σ' H' s' _ => q _ H' s' .non⟩
end Hw

set_option Elab.async false
set_option linter.all false
set_option maxRecDepth 100000
set_option maxHeartbeats 4000000
/-! H2: the text by places, calls by name, comprehensions over pure data. -/
namespace Hw
open PySem PySem.Spec PyProof.Rows L2

/-! ### the text -/
def topS (i : Nat) : Stmt := PySem.Challenge.pw_healwires_k30_whole_what_must_go_wrong.main.body.getD i (.Pass ⟨0, 0, 0, 0⟩)
/-- the built-in names are not the module's -/
structure Bt (mg : Str → Option Value) : Prop where
  «isinstance» : mg "isinstance" = none
  «int» : mg "int" = none
  «bool» : mg "bool" = none
  «tuple» : mg "tuple" = none
  «len» : mg "len" = none
  «sum» : mg "sum" = none
  «str» : mg "str" = none
  «range» : mg "range" = none
  «sorted» : mg "sorted" = none
  «max» : mg "max" = none
  «enumerate» : mg "enumerate" = none
  «repr» : mg "repr" = none
/-- a def of the module that keeps a promise -/
def Fn (P : Program) (w : World) (K : PySem.W.Frag) (mg : Str → Option Value) (base : Heap) (k : Nat) (x : Str) (ps : List Str) (sp : Sp) : Prop :=
  ∃ f fd, FnOk P w K mg base CX0 k f fd ps sp ∧ mg x = some (.ref f) ∧ PySem.W.keepIn K (.ref f) = true ∧ Binds K fd ps []
section
variable {X : Cx} {k : Nat} {x : Str} {ps : List Str} {sp : Sp} {p pos : Pos} {e : Expr} {es : List Expr} {t : TA}
theorem pe_fn (g : Fn X.prog X.w X.K X.mg X.base k x ps sp) (hr : Room k X.A) (hg : Gl X x) (ha : PA X (e :: es) t) (hdb : (x == ("__debug__" : Str)) = false := by decide)
    (he : starEach (e :: es) X.env = (false, eval e X.env) :: starEach es X.env := by rfl) (hpl : (backTo pos (starEach es X.env)).any (·.1) = false := by rfl) :
    PE X (.Call (.Name x p) (e :: es) [] pos) (tCall sp [] E0 t) := by
  obtain ⟨f, fd, G, hm, hk, hb⟩ := g
  exact pe_call G hr hg hm hk hb .nil pass0 ha hdb he hpl
theorem pe_fn0 (g : Fn X.prog X.w X.K X.mg X.base k x ps sp) (hr : Room k X.A) (hg : Gl X x) (hdb : (x == ("__debug__" : Str)) = false := by decide) :
    PE X (.Call (.Name x p) [] [] pos) (tCall sp [] E0 tNil) := by
  obtain ⟨f, fd, G, hm, hk, hb⟩ := g
  exact pe_call0 G hr hg hm hk hb .nil pass0 hdb
end

/-! ### sum of a tuple; powers of great bases -/
def rSumT (K : PySem.W.Frag) : List V → Hp → VK → Prop := fun vs H Q => ∃ (a : Addr) (ns : List Int), vs = [V.ref a] ∧ SqT K H a (ns.map V.int) ∧ Q (.int ns.sum) H
theorem vals_ints_inv : ∀ {ns : List Int} {us : List Value}, Vals (ns.map V.int) us → IntsAre us ns
  | [], _, h => by cases h; exact .nil
  | n :: ns, _, h => by
    cases h with
    | cons r t =>
      obtain ⟨tk, rfl⟩ := r
      exact .cons n tk (vals_ints_inv t)
theorem cr_sumT {X : Cx} (hc : X.calm = true) : CallR X (.builtin "sum") (rSumT X.K) := by
  intro pins s σ H xs us Q I r h
  obtain ⟨a, ns, rfl, hs, q⟩ := h
  obtain ⟨u, rfl, ru⟩ := vals1 r
  cases ru
  obtain ⟨its, rv, p, hz⟩ := I.tuple hs
  have hi := vals_ints_inv rv
  obtain ⟨zs, hx⟩ := hi.allInts.items
  have hn : numsOf its.toArray.toList = ns := by rw [show its.toArray.toList = its from rfl, hi.numsOf]
  rw [hx] at hn p
  rw [nums_intItems] at hn
  refine PySem.W.ktm_sumG (I.ok.hd hc) p fun h' tk t' hk => ?_
  rw [preSum_eq, List.take_of_length_le (by simp), hn]
  exact ⟨.int ns.sum, H, I.kept (t' := tk) hk, ⟨t', rfl⟩, q⟩
def CPowW (i j : Int) : Prop := 0 ≤ j ∧ (Builtin.Int.intBits i : Int) * j ≤ 2 ^ 27
theorem op_powW {X : Cx} : OpR X (binaryOp .Pow) (rI CPowW fun i j => .int (i ^ j.toNat)) := opI fun _ _ _ _ _ _ _ hc q => pow_int hc.1 hc.2 q

/-! ### what a for walks: pure items -/
def ItD (K : PySem.W.Frag) (wi : TI) (Γ : Cty) (ds : List PyData) : Prop := ∀ σ H, EnvD K H σ Γ → ∀ R : It → Hp → Prop,
  (∀ J H1, Same H H1 → (∃ G Y, Walk J ds.length G Y ∧ (∀ H2, Same H1 H2 → G H2) ∧ ∀ k x H2 H3, k < ds.length → Same H1 H2 → Y k H2 x H3 → Same H2 H3 ∧ ∃ d, ds[k]? = some d ∧ Tp K H3 x d) → R J H1) → wi σ H R
def enumD (ds : List PyData) : List PyData := ds.mapIdx fun i d => .tuple [.int (i : Nat), d]
section
variable {K : PySem.W.Frag} {Γ : Cty} {d : PyData} {ds : List PyData} {ta te : TE} {tt : TT} {g : TG} {wi : TI}
theorem id_tup (h : EvD K ta Γ (.tuple ds)) : ItD K (iTup K ta) Γ ds := fun σ H E R q => h σ H E _ fun v H1 s1 t1 => by
  obtain ⟨a, xs, rfl, hs, ha⟩ := t1.tup_inv
  refine ⟨a, rfl, ⟨xs, hs⟩, q _ H1 s1 ⟨_, _, ha.length ▸ walk_tup (xs := xs), fun H2 g => g.gr.sqT hs, fun k x H2 H3 hk g y => ?_⟩⟩
  obtain ⟨rfl, hy⟩ := y
  obtain ⟨d, hd, td⟩ := ha.getV hy
  exact ⟨Same.refl _, d, hd, td.gr g.gr⟩
theorem id_enumT (h : EvD K ta Γ (.tuple ds)) : ItD K (iEnumT K (tCons ta tNil)) Γ (enumD ds) := fun σ H E R q => h σ H E _ fun v H1 s1 t1 => by
  obtain ⟨a, xs, rfl, hs, ha⟩ := t1.tup_inv
  have hl : (enumD ds).length = xs.length := by rw [ha.length]; simp [enumD]
  refine ⟨a, xs, rfl, hs, q _ H1 s1 ⟨_, _, hl ▸ walk_enumT (xs := xs), fun H2 g => g.gr.sqT hs, fun k x H2 H3 hk g y => ?_⟩⟩
  obtain ⟨T, x1, x2, rfl, nT, rfl, e1, e2⟩ := y
  cases e1
  obtain ⟨d, hd, td⟩ := ha.getV e2
  exact ⟨same_new nT, _, by simp [enumD, hd], .tup (SqT.of upd_same) (.cons (.int _) (.cons (td.gr (g.gr.trans (same_new nT).gr)) .nil))⟩

/-! ### a comprehension of pure items -/
def wipeG (Γ : Cty) : List Nat → Cty
  | [] => Γ
  | v :: vs => (wipeG Γ vs).set v none
theorem wipe_env {H : Hp} {σ : L2.St} (E : EnvD K H σ Γ) : ∀ vs : List Nat, EnvD K H (wipe σ vs) (wipeG Γ vs)
  | [] => E
  | v :: vs => (wipe_env E vs).setNone v none
theorem set_comm_none {α : Type} (l : List α) (i j : Nat) (x : α) : (l.set i x).set j x = (l.set j x).set i x := by
  by_cases h : i = j
  · subst h; rfl
  · exact List.set_comm x x h
theorem wipe_set {σ : L2.St} {x : Option V} : ∀ {vs : List Nat} {i : Nat}, i ∈ vs → wipe (σ.set i x) vs = wipe σ vs
  | v :: vs, i, h => by
    show (wipe (σ.set i x) vs).set v none = (wipe σ vs).set v none
    by_cases hv : i ∈ vs
    · rw [wipe_set hv]
    · have e : i = v := by
        rcases List.mem_cons.mp h with z | z
        · exact z
        · exact absurd z hv
      subst e
      have q : ∀ (us : List Nat), i ∉ us → ∀ τ : L2.St, wipe (τ.set i x) us = (wipe τ us).set i x := by
        intro us
        induction us with
        | nil => intro _ τ; rfl
        | cons u us ih =>
          intro hn τ
          have h1 : i ≠ u := fun z => hn (by rw [z]; exact List.mem_cons_self)
          have h2 : i ∉ us := fun z => hn (List.mem_cons_of_mem _ z)
          show (wipe (τ.set i x) us).set u none = ((wipe τ us).set u none).set i x
          rw [ih h2 τ, List.set_comm _ _ h1]
      rw [q vs hv σ, List.set_set]
/-- a target of a comprehension: it stores in the slots vs alone -/
def TgC (K : PySem.W.Frag) (g : TG) (vs : List Nat) (Γ : Cty) (d : PyData) (Γ' : Cty) : Prop := ∀ v σ H, EnvD K H σ Γ → Tp K H v d → ∀ Q : L2.St → Hp → Prop, (∀ σ', EnvD K H σ' Γ' → wipe σ' vs = wipe σ vs → Q σ' H) → g v σ H Q
def TgsC (K : PySem.W.Frag) (g : TGs) (vs : List Nat) (Γ : Cty) (ds : List PyData) (Γ' : Cty) : Prop := ∀ xs σ H, EnvD K H σ Γ → TpA K H xs ds → ∀ Q : L2.St → Hp → Prop, (∀ σ', EnvD K H σ' Γ' → wipe σ' vs = wipe σ vs → Q σ' H) → g xs σ H Q
theorem tc_name {i : Nat} {vs : List Nat} (h : i ∈ vs) : TgC K (gName i) vs Γ d (Γ.set i (some (.dat d))) := fun v σ H E hv Q q => q _ (E.set i hv) (wipe_set h)
theorem tcs_nil {vs : List Nat} : TgsC K gNil vs Γ [] Γ := fun xs σ H E hv Q q => by cases hv; exact ⟨rfl, q σ E rfl⟩
theorem tcs_cons {vs : List Nat} {Γ' Γ'' : Cty} {gs : TGs} (h : TgC K g vs Γ d Γ') (h2 : TgsC K gs vs Γ' ds Γ'') : TgsC K (gCons g gs) vs Γ (d :: ds) Γ'' := fun xs σ H E hv Q q => by
  cases hv with
  | cons h1 ht => exact ⟨_, _, rfl, h _ σ H E h1 _ fun σ1 E1 w1 => h2 _ σ1 H E1 ht _ fun σ2 E2 w2 => q σ2 E2 (w2.trans w1)⟩
theorem tc_tup {vs : List Nat} {Γ' : Cty} {n : Nat} {gs : TGs} (h : TgsC K gs vs Γ ds Γ') (hn : ds.length = n) : TgC K (gTup K n gs) vs Γ (.tuple ds) Γ' := fun v σ H E hv Q q => by
  obtain ⟨a, xs, rfl, hs, ha⟩ := hv.tup_inv
  exact ⟨a, xs, rfl, hs, by rw [ha.length, hn], h xs σ H E ha Q q⟩
theorem wipe_sub {σ : L2.St} : ∀ (us ws : List Nat), (∀ u ∈ us, u ∈ ws) → wipe (wipe σ us) ws = wipe σ ws
  | [], ws, _ => rfl
  | u :: us, ws, h => by
    show wipe ((wipe σ us).set u none) ws = _
    rw [wipe_set (h u List.mem_cons_self), wipe_sub us ws fun v hv => h v (List.mem_cons_of_mem _ hv)]
/-- a new list of pure items -/
def EvL (K : PySem.W.Frag) (te : TE) (Γ : Cty) (ds : List PyData) : Prop := ∀ σ H, EnvD K H σ Γ → ∀ Q : VK, (∀ p xs H', H p = none → Same H H' → H' p = some (.lst xs) → TpA K H' xs ds → Q (.ref p) H') → te σ H Q
theorem EvL.is {es : List PyData} (h : EvL K te Γ ds) (q : ds = es) : EvL K te Γ es := q ▸ h
theorem same_mut {H H' : Hp} {p : Addr} {o : HO} (s : Same H H') (h : H p = none) : Same H (upd H' p o) := fun b x e => by
  rw [upd_ne (ne_of_none e h)]; exact s b x e
theorem el_lc {vs : List Nat} {Γt : PyData → Cty} {f : PyData → Bool} {e : PyData → PyData} (hz : ds.length ≤ 100000) (hi : ItD K wi Γ ds)
    (hg : ∀ d ∈ ds, TgC K g vs (wipeG Γ vs) d (Γt d)) (ht : ∀ d ∈ ds, EvB K tt (Γt d) (f d)) (he : ∀ d ∈ ds, f d = true → EvD K te (Γt d) (e d)) :
    EvL K (tLc wi g tt te vs) Γ ((ds.filter f).map e) := fun σ H E Q q => by
  refine hi σ H E _ fun J H1 s1 hJ => ?_
  obtain ⟨G, Y, wk, hG, hY⟩ := hJ
  intro D hD
  refine lc_it (n := ds.length) wk (Pv := fun k H2 => ∃ xs, H2 D = some (.lst xs) ∧ Same H1 H2 ∧ TpA K H2 xs (((ds.take k).filter f).map e)) ⟨[], upd_same, same_new hD, .nil⟩ (fun k H2 _ ⟨_, _, s2, _⟩ => hG H2 s2) ?_ ?_
  · rintro k x H2 H3 hk ⟨xs, hx, s2, tx⟩ hy
    obtain ⟨s3, d, hd, td⟩ := hY k x H2 H3 hk s2 hy
    have hm : d ∈ ds := List.mem_of_getElem? hd
    have E3 : EnvD K H3 (wipe σ vs) (wipeG Γ vs) := wipe_env ((E.gr s1.gr).gr (s2.trans s3).gr) vs
    have tk : ds.take (k + 1) = ds.take k ++ [d] := by rw [List.take_add_one, hd]; rfl
    refine hg d hm x _ H3 E3 td _ fun σ' E' wq => ⟨wq.trans (wipe_sub vs vs fun _ h => h), ht d hm σ' H3 E' _ fun H4 s4 => ?_⟩
    by_cases hf : f d = true
    · rw [hf]
      refine iteT (he d hm hf σ' H4 (E'.gr s4.gr) _ fun v H5 s5 tv => ?_)
      have h35 := s3.trans (s4.trans s5)
      refine ⟨xs, h35 _ _ hx, ?_, xs ++ [v], upd_same, ?_, ?_⟩
      · rw [tx.length, List.length_map]
        have z1 := List.length_filter_le f (ds.take k)
        have z2 : (ds.take k).length ≤ ds.length := by rw [List.length_take]; omega
        exact Nat.lt_of_le_of_lt (Nat.le_trans z1 (Nat.le_trans z2 hz)) (by decide)
      · exact same_mut (s2.trans h35) hD
      · rw [tk, List.filter_append, List.map_append]
        have g5 : Gr H5 (upd H5 D (.lst (xs ++ [v]))) := gr_lst (h35 _ _ hx)
        have : ([d].filter f).map e = [e d] := by simp [List.filter, hf]
        rw [this]
        exact ((tx.gr h35.gr).gr g5).append (.cons (tv.gr g5) .nil)
    · have hf : f d = false := by simpa using hf
      rw [hf]
      refine iteF ⟨xs, (s3.trans s4) _ _ hx, s2.trans (s3.trans s4), ?_⟩
      rw [tk, List.filter_append, List.map_append]
      have : ([d].filter f).map e = [] := by simp [List.filter, hf]
      rw [this, List.append_nil]
      exact tx.gr (s3.trans s4).gr
  · rintro H2 ⟨xs, hx, s2, tx⟩
    rw [List.take_length] at tx
    exact q D xs H2 (s1.free hD) (s1.trans s2) hx tx
/-- all items kept -/
theorem el_lcAll {vs : List Nat} {Γt : PyData → Cty} {e : PyData → PyData} (hz : ds.length ≤ 100000) (hi : ItD K wi Γ ds)
    (hg : ∀ d ∈ ds, TgC K g vs (wipeG Γ vs) d (Γt d)) (he : ∀ d ∈ ds, EvD K te (Γt d) (e d)) : EvL K (tLc wi g tYes te vs) Γ (ds.map e) :=
  (el_lc (f := fun _ => true) hz hi hg (fun d _ σ H E Q q => q H (Same.refl H)) (fun d hd _ => he d hd)).is (by rw [List.filter_eq_self.mpr (fun _ _ => rfl)])
/-- none kept -/
theorem el_lcNone {vs : List Nat} {Γt : PyData → Cty} (hz : ds.length ≤ 100000) (hi : ItD K wi Γ ds)
    (hg : ∀ d ∈ ds, TgC K g vs (wipeG Γ vs) d (Γt d)) (ht : ∀ d ∈ ds, EvB K tt (Γt d) false) : EvL K (tLc wi g tt te vs) Γ [] :=
  (el_lc (f := fun _ => false) (e := fun d => d) hz hi hg ht (fun d _ h => absurd h Bool.false_ne_true)).is (by rw [show ds.filter (fun _ => false) = [] from List.filter_eq_nil_iff.mpr (fun _ _ h => absurd h Bool.false_ne_true)]; rfl)

/-! ### new lists in expressions -/
theorem el_lst {a : TA} (h : EvA K a Γ ds) (hl : ds.length ≤ 100000) : EvL K (tLst a) Γ ds := fun σ H E Q q =>
  h σ H E _ fun xs H1 s1 t1 => ⟨by rw [t1.length]; exact Nat.le_trans hl (by decide), fun p hp =>
    q p xs _ (s1.free hp) (s1.trans (same_new hp)) upd_same (t1.gr (same_new hp).gr)⟩
/-- tuple(list) -/
theorem ed_tupleOf {tl : TE} (h : EvL K tl Γ ds) : EvD K (tCB (fun xs H Q => ∃ p ys, xs = [.ref p] ∧ ((SqL K H p ys ∧ ∀ l, H l = none → Q (.ref l) (upd H l (.tup ys))) ∨ (SqT K H p ys ∧ Q (.ref p) H))) (tCons tl tNil)) Γ (.tuple ds) := fun σ H E Q q =>
  h σ H E _ fun p xs H1 hp s1 e1 t1 => ⟨p, xs, rfl, .inl ⟨SqL.of e1, fun l hl => q _ _ (s1.trans (same_new hl)) (.tup (SqT.of upd_same) (t1.gr (same_new hl).gr))⟩⟩
/-- a list == [] -/
theorem dp_list {H : Hp} {p : Addr} {xs : List V} (h : H p = some (.lst xs)) (t : TpA K H xs ds) : Dp K H (.ref p) (.list ds) := .lst (SqL.of h) t.dp
theorem ed_eqL {tl tr : TE} {es : List PyData} (h : EvL K tl Γ ds) (h2 : EvL K tr Γ es) (s1 : SeqAt.shaped (.list ds) = true) (s2 : SeqAt.shaped (.list es) = true) :
    EvD K (tOp (rEqD K) tl tr) Γ (.bool (PyData.eqv (.list ds) (.list es))) := fun σ H E Q q =>
  h σ H E _ fun p xs H1 hp sa e1 t1 => h2 σ H1 (E.gr sa.gr) _ fun r ys H2 hr sb e2 t2 =>
    ⟨_, _, dp_list (sb _ _ e1) (t1.gr sb.gr), dp_list e2 t2, s1, s2, q _ _ (sa.trans sb) (.bl _)⟩
theorem ed_neL {tl tr : TE} {es : List PyData} (h : EvL K tl Γ ds) (h2 : EvL K tr Γ es) (s1 : SeqAt.shaped (.list ds) = true) (s2 : SeqAt.shaped (.list es) = true) :
    EvD K (tOp (rNeD K) tl tr) Γ (.bool (!PyData.eqv (.list ds) (.list es))) := fun σ H E Q q =>
  h σ H E _ fun p xs H1 hp sa e1 t1 => h2 σ H1 (E.gr sa.gr) _ fun r ys H2 hr sb e2 t2 =>
    ⟨_, _, dp_list (sb _ _ e1) (t1.gr sb.gr), dp_list e2 t2, s1, s2, q _ _ (sa.trans sb) (.bl _)⟩
/-- x in [a, b, ..], scalars -/
def scA : List PyData → Option (List V)
  | [] => some []
  | d :: ds => (scD d).bind fun v => (scA ds).map (v :: ·)
theorem TpA.scA_inv : ∀ {ds : List PyData} {H : Hp} {vs us : List V}, TpA K H vs ds → scA ds = some us → vs = us
  | [], _, _, _, h, e => by cases h; cases e; rfl
  | d :: ds, _, _, _, h, e => by
    cases h with
    | cons h1 h2 =>
      unfold scA at e
      obtain ⟨v, e1, e2⟩ := Option.bind_eq_some_iff.mp e
      obtain ⟨r, e3, e4⟩ := Option.map_eq_some_iff.mp e2
      rw [← e4, h1.sc_inv e1, TpA.scA_inv h2 e3]
theorem ed_inL {neg : Bool} {tl : TE} {x : V} {us : List V} (h1 : EvD K ta Γ d) (h2 : EvL K tl Γ ds) (e1 : scD d = some x) (e2 : scA ds = some us) (f1 : flatV x = true) (f2 : us.all flatV = true) :
    EvD K (tOp (rIn K neg) ta tl) Γ (.bool (if neg then !inV x us else inV x us)) := fun σ H E Q q =>
  h1 σ H E _ fun v H1 s1 t1 => h2 σ H1 (E.gr s1.gr) _ fun p xs H2 hp s2 l2 t2 => by
    cases t1.sc_inv e1; cases t2.scA_inv e2
    exact ⟨p, us, rfl, .inl (SqL.of l2), f1, f2, q _ _ (s1.trans s2) (.bl _)⟩
/-- [a, b, ..].index(x) -/
theorem ed_index {tl : TE} {x z : V} {us : List V} {j : Nat} (h1 : EvL K tl Γ ds) (h2 : EvD K ta Γ d) (e1 : scD d = some x) (e2 : scA ds = some us) (f1 : flatV x = true) (f2 : us.all flatV = true)
    (h3 : us[j]? = some z) (h4 : eqV z x = true) (h5 : ∀ (m : Nat) (y : V), m < j → us[m]? = some y → eqV y x = false) : EvD K (tBM K "list" (rIndex K) tl (tCons ta tNil)) Γ (.int (j : Nat)) := fun σ H E Q q =>
  h1 σ H E _ fun p xs H1 hp s1 l1 t1 => ⟨.inl ⟨rfl, _, SqL.of l1⟩, h2 σ H1 (E.gr s1.gr) _ fun v H2 s2 t2 => by
    cases t2.sc_inv e1; cases t1.scA_inv e2
    exact ⟨p, us, x, j, z, rfl, rfl, SqL.of (s2 _ _ l1), f1, f2, h3, h4, h5, q _ _ (s1.trans s2) (.int _)⟩⟩
/-- [a, b, ..][i] of written items -/
theorem ed_ixL {tl : TE} {i : Int} (h1 : EvL K tl Γ ds) (h2 : EvD K ta Γ (.int i)) (h0 : 0 ≤ i) (e : ds[i.toNat]? = some d) : EvD K (tOp (rIxL K) tl ta) Γ d := fun σ H E Q q =>
  h1 σ H E _ fun p xs H1 hp s1 l1 t1 => h2 σ H1 (E.gr s1.gr) _ fun v H2 s2 t2 => by
    cases t2.int_inv
    obtain ⟨y, hy, ty⟩ := (t1.gr s2.gr).get e
    have := atI_nat (j := i.toNat) hy
    rw [Int.toNat_of_nonneg h0] at this
    exact ⟨p, xs, i, y, rfl, rfl, SqL.of (s2 _ _ l1), this, q y H2 (s1.trans s2) ty⟩
/-- sum of a tuple of ints -/
theorem TpA.ints_inv : ∀ {ns : List Int} {H : Hp} {vs : List V}, TpA K H vs (ns.map .int) → vs = ns.map V.int
  | [], _, _, h => by cases h; rfl
  | n :: ns, _, _, h => by
    cases h with
    | cons h1 h2 => rw [h1.int_inv, TpA.ints_inv h2]; rfl
theorem ed_sumT {ns : List Int} (h : EvD K ta Γ (.tuple (ns.map .int))) : EvD K (tCB (rSumT K) (tCons ta tNil)) Γ (.int ns.sum) := fun σ H E Q q =>
  h σ H E _ fun v H1 s1 t1 => by
    obtain ⟨a, xs, rfl, hs, ha⟩ := t1.tup_inv
    rw [ha.ints_inv] at hs
    exact ⟨a, ns, rfl, hs, q _ H1 s1 (.int _)⟩
/-! ### bodies that hand back a new list -/
def RunL (K : PySem.W.Frag) (t : TS) (Γ : Cty) (ds : List PyData) : Prop := ∀ (D : Ends) σ H, EnvD K H σ Γ → (∀ p xs H', H p = none → Same H H' → H' p = some (.lst xs) → TpA K H' xs ds → D.rt (.ref p) H') → t D σ H
section
variable {t u z : TS} {c : TT} {Γ' : Cty}
theorem rl_seq (h : RunF K t Γ Γ') (h2 : RunL K u Γ' ds) : RunL K (tSeq t u) Γ ds := fun D σ H E k =>
  h _ σ H E fun σ1 H1 s1 E1 => h2 D σ1 H1 E1 fun p xs H2 hp s2 e2 t2 => k p xs H2 (s1.free hp) (s1.trans s2) e2 t2
theorem rl_ret (h : EvL K te Γ ds) : RunL K (tRet te) Γ ds := fun D σ H E k => h σ H E _ k
theorem rl_sT (h : EvB K c Γ true) (h1 : RunL K t Γ ds) : RunL K (tSeq (tIfS c t u) z) Γ ds := fun D σ H E k =>
  h σ H E _ fun H1 s1 => iteT (h1 _ σ H1 (E.gr s1.gr) fun p xs H2 hp s2 => k p xs H2 (s1.free hp) (s1.trans s2))
theorem rl_sF (h : EvB K c Γ false) (h1 : RunF K u Γ Γ') (h2 : RunL K z Γ' ds) : RunL K (tSeq (tIfS c t u) z) Γ ds := rl_seq (rf_ifF h h1) h2
theorem rl_skip (h : EvB K c Γ false) (h2 : RunL K z Γ ds) : RunL K (tSeq (tIfS c t tNext) z) Γ ds := rl_sF h rf_next h2
end
end
end Hw

set_option Elab.async false
set_option linter.all false
set_option maxRecDepth 100000
set_option maxHeartbeats 4000000
/-! H3: what the program's checks do with links and contents. -/
namespace Hw
open PySem PySem.Spec PyProof.Rows L2

/-! ### links and contents -/
structure Lk where
  c : Nat
  d : Nat
  p : Nat
  q : Nat
  deriving DecidableEq
structure Lk.Ok (L : Lk) : Prop where
  c : 1 ≤ L.c
  d : 1 ≤ L.d
  p : 1 ≤ L.p
  q : 1 ≤ L.q
  cp : L.c ≤ L.p
  dq : L.d ≤ L.q
def dL (L : Lk) : PyData := .tuple [.int L.c, .int L.d, .int L.p, .int L.q]
structure Ct where
  bit : Nat
  heard : Nat
  own : Nat
  lot : Option (Bool × Nat)
  done : Bool
  n : Nat
  z : Nat
  o : Nat
  b0 : Nat
  b1 : Nat
  deriving DecidableEq
def dLot : Option (Bool × Nat) → PyData
  | none => .none
  | some (true, m) => .tuple [.str "new", .int m]
  | some (false, m) => .tuple [.str "old", .int m]
def dS (b h : Nat) : PyData := .tuple [.int b, .int h]
def dR (b : Nat) (l : Option (Bool × Nat)) (x : Bool) : PyData := .tuple [.int b, dLot l, .bool x]
def dT (n z o : Nat) : PyData := .tuple [.int n, .int z, .int o]
def dB (a b : Nat) : PyData := .tuple [.int a, .int b]
def dC (c : Ct) : PyData := .tuple [dS c.bit c.heard, dR c.own c.lot c.done, dT c.n c.z c.o, dB c.b0 c.b1]
def lotOk (p b o : Nat) : Option (Bool × Nat) → Prop
  | none => True
  | some (nw, m) => 1 ≤ m ∧ m + 1 ≤ p ∧ (nw = true → b ≠ o)
structure Ct.Ok (L : Lk) (c : Ct) : Prop where
  bit : c.bit ≤ 1
  heard : c.heard + 1 ≤ L.q
  own : c.own ≤ 1
  lot : lotOk L.p c.bit c.own c.lot
  there : c.n + c.z + c.o ≤ L.c
  back : c.b0 + c.b1 ≤ L.d

/-! ### the walk's own words -/
section
variable {K : PySem.W.Frag} {Γ : Cty} {ta tb : TE}
theorem ed_II {g : Int → Int → Int} {i j : Int} (h1 : EvD K ta Γ (.int i)) (h2 : EvD K tb Γ (.int j)) : EvD K (tOp (rI0 fun i j => .int (g i j)) ta tb) Γ (.int (g i j)) := ed_I0 h1 h2 rfl
theorem ed_IB {g : Int → Int → Bool} {i j : Int} (h1 : EvD K ta Γ (.int i)) (h2 : EvD K tb Γ (.int j)) : EvD K (tOp (rI0 fun i j => .bl (g i j)) ta tb) Γ (.bool (g i j)) := ed_I0 h1 h2 rfl
theorem ed_CI {C : Int → Int → Prop} {g : Int → Int → Int} {i j : Int} (h1 : EvD K ta Γ (.int i)) (h2 : EvD K tb Γ (.int j)) (hc : C i j) : EvD K (tOp (rI C fun i j => .int (g i j)) ta tb) Γ (.int (g i j)) := ed_I h1 h2 hc rfl
end
local macro_rules | `(tactic| walk_at "ed") => `(tactic| (first
  | exact ed_var rfl
  | exact ed_int
  | exact ed_non
  | exact ed_bl
  | exact ed_str
  | (refine ed_II ?_ ?_ <;> walk_at "ed")
  | (refine ed_IB ?_ ?_ <;> walk_at "ed")
  | (refine ed_eqI ?_ ?_ <;> walk_at "ed")
  | (refine ed_neI ?_ ?_ <;> walk_at "ed")
  | (refine ed_eqS ?_ ?_ <;> walk_at "ed")
  | (refine ed_eqB ?_ ?_ <;> walk_at "ed")
  | (refine ed_neB ?_ ?_ <;> walk_at "ed")
  | (refine ed_isN ?_ <;> walk_at "ed")
  | (refine ed_notN ?_ <;> walk_at "ed")
  | (refine ed_not ?_ <;> walk_at "ed")
  | (refine ed_isi ?_ (by decide +kernel) <;> walk_at "ed")
  | (refine ed_len ?_ <;> walk_at "ed")
  | (refine ed_ix ?_ ?_ (by decide) rfl <;> walk_at "ed")
  | exact ea_nil
  | (refine ea_cons ?_ ?_ <;> walk_at "ed")
  | (refine ed_tup ?_ (by simp) <;> walk_at "ed")
  | (refine eb_val ?_ <;> walk_at "ed")
  | (refine eb_test ?_ <;> walk_at "ed")
  | (refine eb_not ?_ <;> walk_at "ed")
  | skip))

section
variable {P : Program} {w : World} {K : PySem.W.Frag} {mg : Str → Option Value} {base : Heap} {f : Addr} {fd : FuncData}
/-! ### is_whole, is_between -/
abbrev s_is_whole : Stmt := topS 6
theorem sc_is_whole : FnScope ["value"] ["value"] (defScope s_is_whole) := ⟨rfl, rfl, rfl, by decide +kernel, rfl, by decide +kernel, by decide +kernel⟩
def R_is_whole (ds : List PyData) (d : PyData) : Prop := ∃ i : Int, ds = [.int i] ∧ d = .bool true
theorem ok_is_whole (F : Fun K "is_whole" "is_whole" s_is_whole f fd) (B : Bt mg) : FnOk P w K mg base CX0 1 f fd ["value"] (spR K R_is_whole) := by
  refine ok_pure (N := ["value"]) F sc_is_whole (fun ds d ⟨i, h, _⟩ => by rw [h]; rfl) fun cdv A outer s H E hr ds d ⟨i, h1, h2⟩ => ?_
  subst h1 h2
  refine ⟨_, (pss_one (ps_ret (pe_and (pe_callB call_isi (by rfl) B.isinstance (by decide +kernel) (pa_cons (pv 0) (pa_cons (pe_bltn (v := .ty "int") (by rfl) B.int (by decide +kernel) rfl) pa_nil))) (pe_one (pe_not (pe_callB call_isi (by rfl) B.isinstance (by decide +kernel) (pa_cons (pv 0) (pa_cons (pe_bltn (v := .ty "bool") (by rfl) B.bool (by decide +kernel) rfl) pa_nil)))))))), ?_⟩
  refine rd_ret (ed_andT (ed_isi (ed_var rfl) (show kitB "int" "int" = some true by decide +kernel)) (EvD.is (ed_not (b := false) (ed_isi (ed_var rfl) (show kitB "int" "bool" = some false by decide +kernel))) rfl))

abbrev s_is_between : Stmt := topS 7
theorem sc_is_between : FnScope ["value", "low", "high"] ["value", "low", "high"] (defScope s_is_between) := ⟨rfl, rfl, rfl, by decide +kernel, rfl, by decide +kernel, by decide +kernel⟩
def oD : Option Int → PyData
  | none => .none
  | some i => .int i
def R_is_between (ds : List PyData) (d : PyData) : Prop := ∃ (i : Int) (lo hi : Option Int), ds = [.int i, oD lo, oD hi] ∧ d = .bool true ∧ (∀ l, lo = some l → l ≤ i) ∧ ∀ h, hi = some h → i ≤ h
theorem ok_is_between (F : Fun K "is_between" "is_between" s_is_between f fd) (B : Bt mg) (g_is_whole : Fn P w K mg base 1 "is_whole" ["value"] (spR K R_is_whole)) : FnOk P w K mg base CX0 2 f fd ["value", "low", "high"] (spR K R_is_between) := by
  refine ok_pure (N := ["value", "low", "high"]) F sc_is_between (fun ds d ⟨i, lo, hi, h, _⟩ => by rw [h]; rfl) fun cdv A outer s H E hr ds d ⟨i, lo, hi, h1, h2, h3, h4⟩ => ?_
  subst h1 h2
  refine ⟨_, (pss_cons (ps_if (pt_not (pt_val (pe_fn g_is_whole (hr.mono (by decide)) (by rfl) (pa_cons (pv 0) pa_nil))))
         (pss_one (ps_ret pe_bl))
         pss_nil)
        (pss_one (ps_ret (pe_and (pe_or (pe_cmp (pc_isN (pv 1)) rfl) (pe_one (pe_cmpR op_ge (pv 0) (pv 1) (nomark _)))) (pe_one (pe_or (pe_cmp (pc_isN (pv 2)) rfl) (pe_one (pe_cmpR op_le (pv 0) (pv 2) (nomark _))))))))), ?_⟩
  refine rd_skip (EvB.is (eb_not (b := true) (eb_val (ed_call (ea_cons (ed_var rfl) ea_nil) ⟨i, rfl, rfl⟩))) rfl) (rd_ret (ed_andT ?_ ?_))
  · cases lo with
    | none => exact ed_orT (ed_isN (d := .none) (ed_var rfl))
    | some l => exact ed_orF (ed_isN (d := .int l) (ed_var rfl)) (EvD.is (ed_IB (i := i) (j := l) (ed_var rfl) (ed_var rfl)) (by rw [decide_eq_true (h3 l rfl)]))
  · cases hi with
    | none => exact ed_orT (ed_isN (d := .none) (ed_var rfl))
    | some l => exact ed_orF (ed_isN (d := .int l) (ed_var rfl)) (EvD.is (ed_IB (i := i) (j := l) (ed_var rfl) (ed_var rfl)) (by rw [decide_eq_true (h4 l rfl)]))

/-! ### links -/
abbrev s_link_fits : Stmt := topS 8
theorem sc_link_fits : FnScope ["value", "item"] ["value"] (defScope s_link_fits) := ⟨rfl, rfl, rfl, by decide +kernel, rfl, by decide +kernel, by decide +kernel⟩
def R_link_fits (ds : List PyData) (d : PyData) : Prop := ∃ L : Lk, L.Ok ∧ ds = [dL L] ∧ d = .bool true
theorem ok_link_fits (F : Fun K "link_fits" "link_fits" s_link_fits f fd) (B : Bt mg) (g_is_between : Fn P w K mg base 2 "is_between" ["value", "low", "high"] (spR K R_is_between)) : FnOk P w K mg base CX0 3 f fd ["value"] (spR K R_link_fits) := by
  refine ok_pure (N := ["value", "item"]) F sc_link_fits (fun ds d ⟨L, h, h2, _⟩ => by rw [h2]; rfl) fun cdv A outer s H E hr ds d ⟨L, h, h1, h2⟩ => ?_
  subst h1 h2
  refine ⟨_, (pss_cons (ps_if (PW.pt (pw_or (pt_not (pt_val (pe_callB call_isi (by rfl) B.isinstance (by decide +kernel) (pa_cons (pv 0) (pa_cons (pe_bltn (v := .ty "tuple") (by rfl) B.tuple (by decide +kernel) rfl) pa_nil))))) (pw_or1 (pt_cmpR op_ne (pe_callB call_len_seq (by rfl) B.len PySem.boot_len (pa_cons (pv 0) pa_nil)) pe_int (nomark _)))))
         (pss_one (ps_ret pe_bl))
         pss_nil)
        (pss_one (ps_ret (pe_cmpR (op_eqD hr.units) (pe_lc (own := [("item", 1)]) (g := gName 1) rfl sc_link_fits.nd (pi_tup (pv 0)) (blkOk_by (N := ["value", "item"]) (sc := defScope s_link_fits) (by decide +kernel)) (fun _ _ _ _ _ => (pg_name (i := 1) sc_link_fits.nd rfl (.inl rfl))) (fun _ _ _ _ _ => (pts_one (pt_not (pt_val (pe_fn g_is_between (hr.mono (by decide)) (by rfl) (pa_cons (pv 1) (pa_cons pe_int (pa_cons pe_non pa_nil)))))))) (fun _ _ _ _ _ => (pv 1))) (pe_lst pa_nil) (nomark _))))), ?_⟩
  refine rd_skip (eb_orF (EvB.is (eb_not (b := true) (eb_val (ed_isi (ed_var rfl) (show kitB "tuple" "tuple" = some true by decide +kernel)))) rfl) (EvB.is (eb_test (ed_neI (ed_len (ed_var rfl)) ed_int)) rfl)) (rd_ret ?_)
  refine (ed_eqL (el_lcNone (ds := [.int L.c, .int L.d, .int L.p, .int L.q]) (vs := [1]) (Γt := fun d => (wipeG _ [1]).set 1 (some (.dat d))) (by simp) (id_tup (ed_var rfl)) (fun d _ => tc_name (by simp)) fun d hd => ?_) (el_lst ea_nil (by simp)) (by decide) (by decide)).is (by rfl)
  obtain ⟨x, rfl, hx⟩ : ∃ x : Int, d = .int x ∧ 1 ≤ x := by
    have h1 := h.c; have h2 := h.d; have h3 := h.p; have h4 := h.q
    simp only [List.mem_cons, List.not_mem_nil, or_false] at hd
    rcases hd with e | e | e | e
    all_goals (subst e; exact ⟨_, rfl, by omega⟩)
  exact EvB.is (eb_not (b := true) (eb_val (ed_call (ea_cons (ed_var rfl) (ea_cons ed_int (ea_cons ed_non ea_nil))) ⟨x, some 1, none, rfl, rfl, fun l e => by cases e; exact hx, fun _ e => nomatch e⟩))) rfl

abbrev s_check_link : Stmt := topS 9
theorem sc_check_link : FnScope ["link"] ["link"] (defScope s_check_link) := ⟨rfl, rfl, rfl, by decide +kernel, rfl, by decide +kernel, by decide +kernel⟩
def R_check_link (ds : List PyData) (d : PyData) : Prop := ∃ L : Lk, L.Ok ∧ ds = [dL L] ∧ d = .none
theorem ok_check_link (F : Fun K "check_link" "check_link" s_check_link f fd) (B : Bt mg) (g_link_fits : Fn P w K mg base 3 "link_fits" ["value"] (spR K R_link_fits)) : FnOk P w K mg base CX0 4 f fd ["link"] (spR K R_check_link) := by
  refine ok_chk (N := ["link"]) F sc_check_link (fun ds d ⟨L, h, h2, e⟩ => by rw [h2]; exact ⟨rfl, e⟩) fun cdv A outer s H E hr ds d ⟨L, h, h1, h2⟩ => ?_
  subst h1 h2
  exact ⟨_, _, (pss_one (ps_if (pt_not (pt_val (pe_fn g_link_fits (hr.mono (by decide)) (by rfl) (pa_cons (pv 0) pa_nil))))
         (pss_one ps_never)
         pss_nil)), rf_ifF (EvB.is (eb_not (b := true) (eb_val (ed_call (ea_cons (ed_var rfl) ea_nil) ⟨L, h, rfl, rfl⟩))) rfl) rf_next⟩

abbrev s_sound_fits : Stmt := topS 10
theorem sc_sound_fits : FnScope ["link", "places", "back", "copies", "answers"] ["link"] (defScope s_sound_fits) := ⟨rfl, rfl, rfl, by decide +kernel, rfl, by decide +kernel, by decide +kernel⟩
def R_sound_fits (ds : List PyData) (d : PyData) : Prop := ∃ L : Lk, L.Ok ∧ ds = [dL L] ∧ d = .bool true
theorem ok_sound_fits (F : Fun K "sound_fits" "sound_fits" s_sound_fits f fd) (B : Bt mg) : FnOk P w K mg base CX0 1 f fd ["link"] (spR K R_sound_fits) := by
  refine ok_pure (N := ["link", "places", "back", "copies", "answers"]) F sc_sound_fits (fun ds d ⟨L, h, h2, _⟩ => by rw [h2]; rfl) fun cdv A outer s H E hr ds d ⟨L, h, h1, h2⟩ => ?_
  subst h1 h2
  refine ⟨_, (pss_cons (ps_asg (pv 0) (pg_tup rfl (pgs_cons (pg_name (i := 1) sc_sound_fits.nd rfl (.inl rfl)) (pgs_cons (pg_name (i := 2) sc_sound_fits.nd rfl (.inl rfl)) (pgs_cons (pg_name (i := 3) sc_sound_fits.nd rfl (.inl rfl)) (pgs_cons (pg_name (i := 4) sc_sound_fits.nd rfl (.inl rfl)) pgs_nil))))))
        (pss_one (ps_ret (pe_and (pe_cmpR op_ge (pv 3) (pv 1) (nomark _)) (pe_one (pe_cmpR op_ge (pv 4) (pv 2) (nomark _))))))), ?_⟩
  have e1 : decide ((L.c : Int) ≤ (L.p : Int)) = true := decide_eq_true (by have := h.cp; omega)
  have e2 : decide ((L.d : Int) ≤ (L.q : Int)) = true := decide_eq_true (by have := h.dq; omega)
  refine rd_seq (rf_tg (ed_var rfl) (tg_tup (ds := [.int L.c, .int L.d, .int L.p, .int L.q]) (tgs_cons tg_name (tgs_cons tg_name (tgs_cons tg_name (tgs_cons tg_name tgs_nil)))) rfl)) (rd_ret (ed_andT ?_ ?_))
  · exact EvD.is (ed_IB (i := L.p) (j := L.c) (ed_var rfl) (ed_var rfl)) (by rw [e1])
  · exact EvD.is (ed_IB (i := L.q) (j := L.d) (ed_var rfl) (ed_var rfl)) (by rw [e2])

abbrev s_check_sound : Stmt := topS 11
theorem sc_check_sound : FnScope ["link"] ["link"] (defScope s_check_sound) := ⟨rfl, rfl, rfl, by decide +kernel, rfl, by decide +kernel, by decide +kernel⟩
def R_check_sound (ds : List PyData) (d : PyData) : Prop := ∃ L : Lk, L.Ok ∧ ds = [dL L] ∧ d = .none
theorem ok_check_sound (F : Fun K "check_sound" "check_sound" s_check_sound f fd) (B : Bt mg) (g_sound_fits : Fn P w K mg base 1 "sound_fits" ["link"] (spR K R_sound_fits)) : FnOk P w K mg base CX0 2 f fd ["link"] (spR K R_check_sound) := by
  refine ok_chk (N := ["link"]) F sc_check_sound (fun ds d ⟨L, h, h2, e⟩ => by rw [h2]; exact ⟨rfl, e⟩) fun cdv A outer s H E hr ds d ⟨L, h, h1, h2⟩ => ?_
  subst h1 h2
  exact ⟨_, _, (pss_one (ps_if (pt_not (pt_val (pe_fn g_sound_fits (hr.mono (by decide)) (by rfl) (pa_cons (pv 0) pa_nil))))
         (pss_one ps_never)
         pss_nil)), rf_ifF (EvB.is (eb_not (b := true) (eb_val (ed_call (ea_cons (ed_var rfl) ea_nil) ⟨L, h, rfl, rfl⟩))) rfl) rf_next⟩

/-! ### contents -/
abbrev s_bit_fits : Stmt := topS 12
theorem sc_bit_fits : FnScope ["value"] ["value"] (defScope s_bit_fits) := ⟨rfl, rfl, rfl, by decide +kernel, rfl, by decide +kernel, by decide +kernel⟩
def R_bit_fits (ds : List PyData) (d : PyData) : Prop := ∃ b : Nat, b ≤ 1 ∧ ds = [.int b] ∧ d = .bool true
theorem ok_bit_fits (F : Fun K "bit_fits" "bit_fits" s_bit_fits f fd) (B : Bt mg) (g_is_between : Fn P w K mg base 2 "is_between" ["value", "low", "high"] (spR K R_is_between)) : FnOk P w K mg base CX0 3 f fd ["value"] (spR K R_bit_fits) := by
  refine ok_pure (N := ["value"]) F sc_bit_fits (fun ds d ⟨L, h, h2, _⟩ => by rw [h2]; rfl) fun cdv A outer s H E hr ds d ⟨b, h, h1, h2⟩ => ?_
  subst h1 h2
  refine ⟨_, (pss_one (ps_ret (pe_fn g_is_between (hr.mono (by decide)) (by rfl) (pa_cons (pv 0) (pa_cons pe_int (pa_cons pe_int pa_nil)))))), ?_⟩
  exact rd_ret (ed_call (ea_cons (ed_var rfl) (ea_cons ed_int (ea_cons ed_int ea_nil))) ⟨b, some 0, some 1, rfl, rfl, fun l e => by cases e; omega, fun l e => by cases e; omega⟩)

abbrev s_counts_fit : Stmt := topS 13
theorem sc_counts_fit : FnScope ["value", "size", "most", "item"] ["value", "size", "most"] (defScope s_counts_fit) := ⟨rfl, rfl, rfl, by decide +kernel, rfl, by decide +kernel, by decide +kernel⟩
def R_counts_fit (ds : List PyData) (d : PyData) : Prop := ∃ (ns : List Nat) (m : Nat), ns.length ≤ 100 ∧ ns.sum ≤ m ∧ ds = [.tuple (ns.map fun n => .int (n : Nat)), .int ns.length, .int m] ∧ d = .bool true
theorem sum_nat : ∀ ns : List Nat, (ns.map fun (n : Nat) => (n : Int)).sum = (ns.sum : Nat)
  | [] => rfl
  | n :: ns => by rw [List.map_cons, List.sum_cons, sum_nat ns, List.sum_cons]; omega
theorem ok_counts_fit (F : Fun K "counts_fit" "counts_fit" s_counts_fit f fd) (B : Bt mg) (g_is_between : Fn P w K mg base 2 "is_between" ["value", "low", "high"] (spR K R_is_between)) : FnOk P w K mg base CX0 3 f fd ["value", "size", "most"] (spR K R_counts_fit) := by
  refine ok_pure (N := ["value", "size", "most", "item"]) F sc_counts_fit (fun ds d ⟨ns, m, _, _, h2, _⟩ => by rw [h2]; rfl) fun cdv A outer s H E hr ds d ⟨ns, m, hl, hm, h1, h2⟩ => ?_
  subst h1 h2
  refine ⟨_, (pss_cons (ps_if (PW.pt (pw_or (pt_not (pt_val (pe_callB call_isi (by rfl) B.isinstance (by decide +kernel) (pa_cons (pv 0) (pa_cons (pe_bltn (v := .ty "tuple") (by rfl) B.tuple (by decide +kernel) rfl) pa_nil))))) (pw_or1 (pt_cmpR op_ne (pe_callB call_len_seq (by rfl) B.len PySem.boot_len (pa_cons (pv 0) pa_nil)) (pv 1) (nomark _)))))
         (pss_one (ps_ret pe_bl))
         pss_nil)
        (pss_cons (ps_if (pt_cmpR (op_neD hr.units) (pe_lc (own := [("item", 3)]) (g := gName 3) rfl sc_counts_fit.nd (pi_tup (pv 0)) (blkOk_by (N := ["value", "size", "most", "item"]) (sc := defScope s_counts_fit) (by decide +kernel)) (fun _ _ _ _ _ => (pg_name (i := 3) sc_counts_fit.nd rfl (.inl rfl))) (fun _ _ _ _ _ => (pts_one (pt_not (pt_val (pe_fn g_is_between (hr.mono (by decide)) (by rfl) (pa_cons (pv 3) (pa_cons pe_int (pa_cons pe_non pa_nil)))))))) (fun _ _ _ _ _ => (pv 3))) (pe_lst pa_nil) (nomark _))
         (pss_one (ps_ret pe_bl))
         pss_nil)
        (pss_one (ps_ret (pe_cmpR op_le (pe_callB (cr_sumT rfl) (by rfl) B.sum (by decide +kernel) (pa_cons (pv 0) pa_nil)) (pv 2) (nomark _)))))), ?_⟩
  have hmap : (ns.map fun n => PyData.int (n : Nat)) = (ns.map fun (n : Nat) => (n : Int)).map PyData.int := by rw [List.map_map]; rfl
  refine rd_skip (eb_orF (EvB.is (eb_not (b := true) (eb_val (ed_isi (ed_var rfl) (show kitB "tuple" "tuple" = some true by decide +kernel)))) rfl) (EvB.is (eb_test (ed_neI (ed_len (ed_var rfl)) (ed_var rfl))) (by simp))) ?_
  refine rd_skip (EvB.is (eb_test (ed_neL (el_lcNone (ds := ns.map fun n => .int (n : Nat)) (vs := [3]) (Γt := fun d => (wipeG _ [3]).set 3 (some (.dat d))) (by simp; omega) (id_tup (ed_var rfl)) (fun d _ => tc_name (by simp)) fun d hd => ?_) (el_lst ea_nil (by simp)) (by decide) (by decide))) (by rfl)) ?_
  · obtain ⟨x, hx, rfl⟩ := List.mem_map.mp hd
    exact EvB.is (eb_not (b := true) (eb_val (ed_call (ea_cons (ed_var rfl) (ea_cons ed_int (ea_cons ed_non ea_nil))) ⟨x, some 0, none, rfl, rfl, fun l e => by cases e; omega, fun _ e => nomatch e⟩))) rfl
  · have e1 : decide (((ns.map fun (n : Nat) => (n : Int)).sum) ≤ (m : Int)) = true := decide_eq_true (by rw [sum_nat]; omega)
    exact rd_ret (EvD.is (ed_IB (ed_sumT (ns := ns.map fun (n : Nat) => (n : Int)) (by rw [← hmap]; exact ed_var rfl)) (ed_var (d := .int m) rfl)) (by rw [e1]))

theorem lot_str (m : Nat) (nw : Bool) : dLot (some (nw, m)) = .tuple [.str (if nw then "new" else "old"), .int m] := by cases nw <;> rfl
abbrev s_lot_fits : Stmt := topS 14
theorem sc_lot_fits : FnScope ["link", "value", "alike"] ["link", "value", "alike"] (defScope s_lot_fits) := ⟨rfl, rfl, rfl, by decide +kernel, rfl, by decide +kernel, by decide +kernel⟩
def R_lot_fits (ds : List PyData) (d : PyData) : Prop := ∃ (L : Lk) (l : Option (Bool × Nat)) (b o : Nat), lotOk L.p b o l ∧ ds = [dL L, dLot l, .bool (decide ((b : Int) = o))] ∧ d = .bool true
theorem ok_lot_fits (F : Fun K "lot_fits" "lot_fits" s_lot_fits f fd) (B : Bt mg) (g_is_between : Fn P w K mg base 2 "is_between" ["value", "low", "high"] (spR K R_is_between)) : FnOk P w K mg base CX0 3 f fd ["link", "value", "alike"] (spR K R_lot_fits) := by
  refine ok_pure (N := ["link", "value", "alike"]) F sc_lot_fits (fun ds d ⟨L, l, b, o, _, h2, _⟩ => by rw [h2]; rfl) fun cdv A outer s H E hr ds d ⟨L, l, b, o, hl, h1, h2⟩ => ?_
  subst h1 h2
  refine ⟨_, (pss_cons (ps_if (pt_cmp (pc_isN (pv 1)) rfl)
         (pss_one (ps_ret pe_bl))
         pss_nil)
        (pss_cons (ps_if (PW.pt (pw_or (pt_not (pt_val (pe_callB call_isi (by rfl) B.isinstance (by decide +kernel) (pa_cons (pv 1) (pa_cons (pe_bltn (v := .ty "tuple") (by rfl) B.tuple (by decide +kernel) rfl) pa_nil))))) (pw_or (pt_cmpR op_ne (pe_callB call_len_seq (by rfl) B.len PySem.boot_len (pa_cons (pv 1) pa_nil)) pe_int (nomark _)) (pw_or1 (pt_not (pt_val (pe_callB call_isi (by rfl) B.isinstance (by decide +kernel) (pa_cons (pe_ix ix_tup (pv 1) pe_int (fun _ _ => rfl)) (pa_cons (pe_bltn (v := .ty "str") (by rfl) B.str (by decide +kernel) rfl) pa_nil)))))))))
         (pss_one (ps_ret pe_bl))
         pss_nil)
        (pss_cons (ps_if (PW.pt (pw_or (pt_cmpR op_notIn_seq (pe_ix ix_tup (pv 1) pe_int (fun _ _ => rfl)) (pe_lst (pa_cons pe_str (pa_cons pe_str pa_nil))) (by rfl)) (pw_or1 (PW.pt (pw_and (pt_cmpR op_eq (pe_ix ix_tup (pv 1) pe_int (fun _ _ => rfl)) pe_str (nomark _)) (pw_and1 (pt_val (pv 2))))))))
         (pss_one (ps_ret pe_bl))
         pss_nil)
        (pss_one (ps_ret (pe_fn g_is_between (hr.mono (by decide)) (by rfl) (pa_cons (pe_ix ix_tup (pv 1) pe_int (fun _ _ => rfl)) (pa_cons pe_int (pa_cons (pe_op op_sub (pe_ix ix_tup (pv 0) pe_int (fun _ _ => rfl)) pe_int) pa_nil))))))))), ?_⟩
  cases l with
  | none => exact rd_sT (eb_val (ed_isN (d := .none) (ed_var rfl))) (rd_ret ed_bl)
  | some x =>
    obtain ⟨nw, m⟩ := x
    obtain ⟨h1, h2, h3⟩ := hl
    have hb : nw = true → decide ((b : Int) = o) = false := fun e => decide_eq_false (by have := h3 e; omega)
    rw [lot_str]
    refine rd_skip (EvB.is (eb_val (ed_isN (d := .tuple [.str (if nw then "new" else "old"), .int m]) (ed_var rfl))) rfl) ?_
    refine rd_skip (eb_orF (EvB.is (eb_not (b := true) (eb_val (ed_isi (ed_var rfl) (show kitB "tuple" "tuple" = some true by decide +kernel)))) rfl) (eb_orF (EvB.is (eb_test (ed_neI (ed_len (ed_var rfl)) ed_int)) rfl)
      (EvB.is (eb_not (b := true) (eb_val (ed_isi (ed_ix (d := .str (if nw then "new" else "old")) (ed_var rfl) ed_int (by decide) rfl) (show kitB "str" "str" = some true by decide +kernel)))) rfl))) ?_
    refine rd_skip (EvB.is (eb_orF (EvB.is (eb_test (ed_inL (x := .str (if nw then "new" else "old")) (us := [.str "new", .str "old"]) (ed_ix (ed_var rfl) ed_int (by decide) rfl) (el_lst (ea_cons ed_str (ea_cons ed_str ea_nil)) (by simp)) rfl rfl rfl rfl)) (c := false) (by cases nw <;> decide))
      (eb_and (b := decide ((if nw then ("new" : Str) else "old") = "new")) (c := decide ((b : Int) = o)) (eb_test (ed_eqS (ed_ix (ed_var rfl) ed_int (by decide) rfl) ed_str)) (fun _ => eb_val (ed_var rfl)))) ?_) ?_
    · cases nw with
      | true => rw [hb rfl]; rfl
      | false => rw [show decide ((if false then ("new" : Str) else "old") = "new") = false by decide]; rfl
    · refine rd_ret (ed_call (ea_cons (ed_ix (d := .int m) (ed_var rfl) ed_int (by decide) rfl) (ea_cons ed_int (ea_cons (ed_II (ed_ix (d := .int L.p) (ed_var (d := .tuple [.int L.c, .int L.d, .int L.p, .int L.q]) rfl) ed_int (by decide) rfl) ed_int) ea_nil))) ⟨m, some 1, some (L.p - 1), rfl, rfl, fun l e => by cases e; omega, fun l e => by cases e; omega⟩)

abbrev s_hosts_fit : Stmt := topS 15
theorem sc_hosts_fit : FnScope ["link", "sender", "receiver"] ["link", "sender", "receiver"] (defScope s_hosts_fit) := ⟨rfl, rfl, rfl, by decide +kernel, rfl, by decide +kernel, by decide +kernel⟩
def R_hosts_fit (ds : List PyData) (d : PyData) : Prop := ∃ (L : Lk) (c : Ct), c.Ok L ∧ ds = [dL L, dS c.bit c.heard, dR c.own c.lot c.done] ∧ d = .bool true
theorem ok_hosts_fit (F : Fun K "hosts_fit" "hosts_fit" s_hosts_fit f fd) (B : Bt mg) (g_is_between : Fn P w K mg base 2 "is_between" ["value", "low", "high"] (spR K R_is_between)) (g_bit_fits : Fn P w K mg base 3 "bit_fits" ["value"] (spR K R_bit_fits))
    (g_lot_fits : Fn P w K mg base 3 "lot_fits" ["link", "value", "alike"] (spR K R_lot_fits)) : FnOk P w K mg base CX0 4 f fd ["link", "sender", "receiver"] (spR K R_hosts_fit) := by
  refine ok_pure (N := ["link", "sender", "receiver"]) F sc_hosts_fit (fun ds d ⟨L, c, _, h2, _⟩ => by rw [h2]; rfl) fun cdv A outer s H E hr ds d ⟨L, c, hc, h1, h2⟩ => ?_
  subst h1 h2
  refine ⟨_, (pss_cons (ps_if (PW.pt (pw_or (pt_not (pt_val (pe_callB call_isi (by rfl) B.isinstance (by decide +kernel) (pa_cons (pv 1) (pa_cons (pe_bltn (v := .ty "tuple") (by rfl) B.tuple (by decide +kernel) rfl) pa_nil))))) (pw_or (pt_cmpR op_ne (pe_callB call_len_seq (by rfl) B.len PySem.boot_len (pa_cons (pv 1) pa_nil)) pe_int (nomark _)) (pw_or (pt_not (pt_val (pe_callB call_isi (by rfl) B.isinstance (by decide +kernel) (pa_cons (pv 2) (pa_cons (pe_bltn (v := .ty "tuple") (by rfl) B.tuple (by decide +kernel) rfl) pa_nil))))) (pw_or1 (pt_cmpR op_ne (pe_callB call_len_seq (by rfl) B.len PySem.boot_len (pa_cons (pv 2) pa_nil)) pe_int (nomark _)))))))
         (pss_one (ps_ret pe_bl))
         pss_nil)
        (pss_cons (ps_if (PW.pt (pw_or (pt_not (pt_val (pe_fn g_bit_fits (hr.mono (by decide)) (by rfl) (pa_cons (pe_ix ix_tup (pv 1) pe_int (fun _ _ => rfl)) pa_nil)))) (pw_or1 (pt_not (pt_val (pe_fn g_is_between (hr.mono (by decide)) (by rfl) (pa_cons (pe_ix ix_tup (pv 1) pe_int (fun _ _ => rfl)) (pa_cons pe_int (pa_cons (pe_op op_sub (pe_ix ix_tup (pv 0) pe_int (fun _ _ => rfl)) pe_int) pa_nil)))))))))
         (pss_one (ps_ret pe_bl))
         pss_nil)
        (pss_cons (ps_if (PW.pt (pw_or (pt_not (pt_val (pe_fn g_bit_fits (hr.mono (by decide)) (by rfl) (pa_cons (pe_ix ix_tup (pv 2) pe_int (fun _ _ => rfl)) pa_nil)))) (pw_or1 (pt_not (pt_val (pe_callB call_isi (by rfl) B.isinstance (by decide +kernel) (pa_cons (pe_ix ix_tup (pv 2) pe_int (fun _ _ => rfl)) (pa_cons (pe_bltn (v := .ty "bool") (by rfl) B.bool (by decide +kernel) rfl) pa_nil))))))))
         (pss_one (ps_ret pe_bl))
         pss_nil)
        (pss_one (ps_ret (pe_fn g_lot_fits (hr.mono (by decide)) (by rfl) (pa_cons (pv 0) (pa_cons (pe_ix ix_tup (pv 2) pe_int (fun _ _ => rfl)) (pa_cons (pe_cmpR op_eq (pe_ix ix_tup (pv 1) pe_int (fun _ _ => rfl)) (pe_ix ix_tup (pv 2) pe_int (fun _ _ => rfl)) (nomark _)) pa_nil))))))))), ?_⟩
  have tt := show kitB "tuple" "tuple" = some true by decide +kernel
  refine rd_skip (eb_orF (EvB.is (eb_not (b := true) (eb_val (ed_isi (d := dS c.bit c.heard) (ed_var rfl) tt))) rfl) (eb_orF (EvB.is (eb_test (ed_neI (ed_len (ed_var (d := .tuple [.int c.bit, .int c.heard]) rfl)) ed_int)) rfl)
    (eb_orF (EvB.is (eb_not (b := true) (eb_val (ed_isi (d := dR c.own c.lot c.done) (ed_var rfl) tt))) rfl) (EvB.is (eb_test (ed_neI (ed_len (ed_var (d := .tuple [.int c.own, dLot c.lot, .bool c.done]) rfl)) ed_int)) rfl)))) ?_
  refine rd_skip (eb_orF (EvB.is (eb_not (b := true) (eb_val (ed_call (ea_cons (ed_ix (d := .int c.bit) (ed_var (d := .tuple [.int c.bit, .int c.heard]) rfl) ed_int (by decide) rfl) ea_nil) ⟨c.bit, hc.bit, rfl, rfl⟩))) rfl)
    (EvB.is (eb_not (b := true) (eb_val (ed_call (ea_cons (ed_ix (d := .int c.heard) (ed_var (d := .tuple [.int c.bit, .int c.heard]) rfl) ed_int (by decide) rfl) (ea_cons ed_int (ea_cons (ed_II (ed_ix (d := .int L.q) (ed_var (d := .tuple [.int L.c, .int L.d, .int L.p, .int L.q]) rfl) ed_int (by decide) rfl) ed_int) ea_nil)))
      ⟨c.heard, some 0, some (L.q - 1), rfl, rfl, fun l e => by cases e; omega, fun l e => by cases e; have := hc.heard; omega⟩))) rfl)) ?_
  refine rd_skip (eb_orF (EvB.is (eb_not (b := true) (eb_val (ed_call (ea_cons (ed_ix (d := .int c.own) (ed_var (d := .tuple [.int c.own, dLot c.lot, .bool c.done]) rfl) ed_int (by decide) rfl) ea_nil) ⟨c.own, hc.own, rfl, rfl⟩))) rfl)
    (EvB.is (eb_not (b := true) (eb_val (ed_isi (ed_ix (d := .bool c.done) (ed_var (d := .tuple [.int c.own, dLot c.lot, .bool c.done]) rfl) ed_int (by decide) rfl) (show kitB "bool" "bool" = some true by decide +kernel)))) rfl)) ?_
  refine rd_ret (ed_call (ea_cons (ed_var (d := dL L) rfl) (ea_cons (ed_ix (d := dLot c.lot) (ed_var (d := .tuple [.int c.own, dLot c.lot, .bool c.done]) rfl) ed_int (by decide) rfl)
    (ea_cons (ed_eqI (i := c.bit) (j := c.own) (ed_ix (ed_var (d := .tuple [.int c.bit, .int c.heard]) rfl) ed_int (by decide) rfl) (ed_ix (ed_var (d := .tuple [.int c.own, dLot c.lot, .bool c.done]) rfl) ed_int (by decide) rfl)) ea_nil))) ⟨L, c.lot, c.bit, c.own, hc.lot, rfl, rfl⟩)

abbrev s_contents_fit : Stmt := topS 16
theorem sc_contents_fit : FnScope ["link", "value"] ["link", "value"] (defScope s_contents_fit) := ⟨rfl, rfl, rfl, by decide +kernel, rfl, by decide +kernel, by decide +kernel⟩
def R_contents_fit (ds : List PyData) (d : PyData) : Prop := ∃ (L : Lk) (c : Ct), c.Ok L ∧ ds = [dL L, dC c] ∧ d = .bool true
theorem ok_contents_fit (F : Fun K "contents_fit" "contents_fit" s_contents_fit f fd) (B : Bt mg) (g_hosts_fit : Fn P w K mg base 4 "hosts_fit" ["link", "sender", "receiver"] (spR K R_hosts_fit))
    (g_counts_fit : Fn P w K mg base 3 "counts_fit" ["value", "size", "most"] (spR K R_counts_fit)) : FnOk P w K mg base CX0 5 f fd ["link", "value"] (spR K R_contents_fit) := by
  refine ok_pure (N := ["link", "value"]) F sc_contents_fit (fun ds d ⟨L, c, _, h2, _⟩ => by rw [h2]; rfl) fun cdv A outer s H E hr ds d ⟨L, c, hc, h1, h2⟩ => ?_
  subst h1 h2
  refine ⟨_, (pss_cons (ps_if (PW.pt (pw_or (pt_not (pt_val (pe_callB call_isi (by rfl) B.isinstance (by decide +kernel) (pa_cons (pv 1) (pa_cons (pe_bltn (v := .ty "tuple") (by rfl) B.tuple (by decide +kernel) rfl) pa_nil))))) (pw_or (pt_cmpR op_ne (pe_callB call_len_seq (by rfl) B.len PySem.boot_len (pa_cons (pv 1) pa_nil)) pe_int (nomark _)) (pw_or1 (pt_not (pt_val (pe_fn g_hosts_fit (hr.mono (by decide)) (by rfl) (pa_cons (pv 0) (pa_cons (pe_ix ix_tup (pv 1) pe_int (fun _ _ => rfl)) (pa_cons (pe_ix ix_tup (pv 1) pe_int (fun _ _ => rfl)) pa_nil))))))))))
         (pss_one (ps_ret pe_bl))
         pss_nil)
        (pss_one (ps_ret (pe_and (pe_fn g_counts_fit (hr.mono (by decide)) (by rfl) (pa_cons (pe_ix ix_tup (pv 1) pe_int (fun _ _ => rfl)) (pa_cons pe_int (pa_cons (pe_ix ix_tup (pv 0) pe_int (fun _ _ => rfl)) pa_nil)))) (pe_one (pe_fn g_counts_fit (hr.mono (by decide)) (by rfl) (pa_cons (pe_ix ix_tup (pv 1) pe_int (fun _ _ => rfl)) (pa_cons pe_int (pa_cons (pe_ix ix_tup (pv 0) pe_int (fun _ _ => rfl)) pa_nil))))))))), ?_⟩
  have tt := show kitB "tuple" "tuple" = some true by decide +kernel
  have vC : EvD K (tVar 1) (ctx0 2 [dL L, dC c]) (.tuple [dS c.bit c.heard, dR c.own c.lot c.done, dT c.n c.z c.o, dB c.b0 c.b1]) := ed_var rfl
  have vL : EvD K (tVar 0) (ctx0 2 [dL L, dC c]) (.tuple [.int L.c, .int L.d, .int L.p, .int L.q]) := ed_var rfl
  refine rd_skip (eb_orF (EvB.is (eb_not (b := true) (eb_val (ed_isi vC tt))) rfl) (eb_orF (EvB.is (eb_test (ed_neI (ed_len vC) ed_int)) rfl)
    (EvB.is (eb_not (b := true) (eb_val (ed_call (ea_cons (ed_var (d := dL L) rfl) (ea_cons (ed_ix (d := dS c.bit c.heard) vC ed_int (by decide) rfl) (ea_cons (ed_ix (d := dR c.own c.lot c.done) vC ed_int (by decide) rfl) ea_nil))) ⟨L, c, hc, rfl, rfl⟩))) rfl))) ?_
  refine rd_ret (ed_andT ?_ ?_)
  · exact ed_call (ea_cons (ed_ix (d := dT c.n c.z c.o) vC ed_int (by decide) rfl) (ea_cons ed_int (ea_cons (ed_ix (d := .int L.c) vL ed_int (by decide) rfl) ea_nil))) ⟨[c.n, c.z, c.o], L.c, by simp, by have := hc.there; simp; omega, rfl, rfl⟩
  · exact ed_call (ea_cons (ed_ix (d := dB c.b0 c.b1) vC ed_int (by decide) rfl) (ea_cons ed_int (ea_cons (ed_ix (d := .int L.d) vL ed_int (by decide) rfl) ea_nil))) ⟨[c.b0, c.b1], L.d, by simp, by have := hc.back; simp; omega, rfl, rfl⟩

abbrev s_check_contents : Stmt := topS 17
theorem sc_check_contents : FnScope ["link", "contents"] ["link", "contents"] (defScope s_check_contents) := ⟨rfl, rfl, rfl, by decide +kernel, rfl, by decide +kernel, by decide +kernel⟩
def R_check_contents (ds : List PyData) (d : PyData) : Prop := ∃ (L : Lk) (c : Ct), L.Ok ∧ c.Ok L ∧ ds = [dL L, dC c] ∧ d = .none
theorem ok_check_contents (F : Fun K "check_contents" "check_contents" s_check_contents f fd) (B : Bt mg) (g_check_link : Fn P w K mg base 4 "check_link" ["link"] (spR K R_check_link))
    (g_contents_fit : Fn P w K mg base 5 "contents_fit" ["link", "value"] (spR K R_contents_fit)) : FnOk P w K mg base CX0 6 f fd ["link", "contents"] (spR K R_check_contents) := by
  refine ok_chk (N := ["link", "contents"]) F sc_check_contents (fun ds d ⟨L, c, _, _, h2, e⟩ => by rw [h2]; exact ⟨rfl, e⟩) fun cdv A outer s H E hr ds d ⟨L, c, hL, hc, h1, h2⟩ => ?_
  subst h1 h2
  exact ⟨_, _, (pss_cons (ps_expr (pe_fn g_check_link (hr.mono (by decide)) (by rfl) (pa_cons (pv 0) pa_nil)))
        (pss_one (ps_if (pt_not (pt_val (pe_fn g_contents_fit (hr.mono (by decide)) (by rfl) (pa_cons (pv 0) (pa_cons (pv 1) pa_nil)))))
         (pss_one ps_never)
         pss_nil))), rf_seq (rf_drop (ed_call (ea_cons (ed_var (d := dL L) rfl) ea_nil) ⟨L, hL, rfl, rfl⟩))
    (rf_ifF (EvB.is (eb_not (b := true) (eb_val (ed_call (ea_cons (ed_var (d := dL L) rfl) (ea_cons (ed_var (d := dC c) rfl) ea_nil)) ⟨L, c, hc, rfl, rfl⟩))) rfl) rf_next)⟩

abbrev s_check_fated : Stmt := topS 28
theorem sc_check_fated : FnScope ["link", "contents"] ["link", "contents"] (defScope s_check_fated) := ⟨rfl, rfl, rfl, by decide +kernel, rfl, by decide +kernel, by decide +kernel⟩
theorem ok_check_fated (F : Fun K "check_fated" "check_fated" s_check_fated f fd) (B : Bt mg) (g_check_contents : Fn P w K mg base 6 "check_contents" ["link", "contents"] (spR K R_check_contents))
    (g_check_sound : Fn P w K mg base 2 "check_sound" ["link"] (spR K R_check_sound)) : FnOk P w K mg base CX0 7 f fd ["link", "contents"] (spR K R_check_contents) := by
  refine ok_chk (N := ["link", "contents"]) F sc_check_fated (fun ds d ⟨L, c, _, _, h2, e⟩ => by rw [h2]; exact ⟨rfl, e⟩) fun cdv A outer s H E hr ds d ⟨L, c, hL, hc, h1, h2⟩ => ?_
  subst h1 h2
  exact ⟨_, _, (pss_cons (ps_expr (pe_fn g_check_contents (hr.mono (by decide)) (by rfl) (pa_cons (pv 0) (pa_cons (pv 1) pa_nil))))
        (pss_one (ps_expr (pe_fn g_check_sound (hr.mono (by decide)) (by rfl) (pa_cons (pv 0) pa_nil))))), rf_seq (rf_drop (ed_call (ea_cons (ed_var (d := dL L) rfl) (ea_cons (ed_var (d := dC c) rfl) ea_nil)) ⟨L, c, hL, hc, rfl, rfl⟩))
    (rf_drop (ed_call (ea_cons (ed_var (d := dL L) rfl) ea_nil) ⟨L, hL, rfl, rfl⟩))⟩

/-! ### signs -/
abbrev s_even_fits : Stmt := topS 18
theorem sc_even_fits : FnScope ["contents"] ["contents"] (defScope s_even_fits) := ⟨rfl, rfl, rfl, by decide +kernel, rfl, by decide +kernel, by decide +kernel⟩
def Ct.even (c : Ct) : Bool := decide ((c.bit : Int) = c.own)
def R_even (ds : List PyData) (d : PyData) : Prop := ∃ c : Ct, ds = [dC c] ∧ d = .bool c.even
theorem ok_even_fits (F : Fun K "even_fits" "even_fits" s_even_fits f fd) : FnOk P w K mg base CX0 1 f fd ["contents"] (spR K R_even) := by
  refine ok_pure (N := ["contents"]) F sc_even_fits (fun ds d ⟨c, h2, _⟩ => by rw [h2]; rfl) fun cdv A outer s H E hr ds d ⟨c, h1, h2⟩ => ?_
  subst h1 h2
  refine ⟨_, (pss_one (ps_ret (pe_cmpR op_eq (pe_ix ix_tup (pe_ix ix_tup (pv 0) pe_int (fun _ _ => rfl)) pe_int (fun _ _ => rfl)) (pe_ix ix_tup (pe_ix ix_tup (pv 0) pe_int (fun _ _ => rfl)) pe_int (fun _ _ => rfl)) (nomark _)))), ?_⟩
  have vC : EvD K (tVar 0) (ctx0 1 [dC c]) (.tuple [dS c.bit c.heard, dR c.own c.lot c.done, dT c.n c.z c.o, dB c.b0 c.b1]) := ed_var rfl
  exact rd_ret (ed_eqI (i := c.bit) (j := c.own) (ed_ix (ed_ix (d := .tuple [.int c.bit, .int c.heard]) vC ed_int (by decide) rfl) ed_int (by decide) rfl) (ed_ix (ed_ix (d := .tuple [.int c.own, dLot c.lot, .bool c.done]) vC ed_int (by decide) rfl) ed_int (by decide) rfl))
abbrev s_must_in : Stmt := topS 33
theorem sc_must_in : FnScope ["contents"] ["contents"] (defScope s_must_in) := ⟨rfl, rfl, rfl, by decide +kernel, rfl, by decide +kernel, by decide +kernel⟩
def Ct.must (c : Ct) : Nat := if c.even != c.done then 1 else 0
def R_must_in (ds : List PyData) (d : PyData) : Prop := ∃ c : Ct, ds = [dC c] ∧ d = .int c.must
theorem ok_must_in (F : Fun K "must_in" "must_in" s_must_in f fd) (B : Bt mg) (g_even_fits : Fn P w K mg base 1 "even_fits" ["contents"] (spR K R_even)) : FnOk P w K mg base CX0 2 f fd ["contents"] (spR K R_must_in) := by
  refine ok_pure (N := ["contents"]) F sc_must_in (fun ds d ⟨c, h2, _⟩ => by rw [h2]; rfl) fun cdv A outer s H E hr ds d ⟨c, h1, h2⟩ => ?_
  subst h1 h2
  refine ⟨_, (pss_one (ps_ret (pe_callTy call_int1 (by rfl) B.int (by decide +kernel) (pa_cons (pe_cmpR op_ne (pe_fn g_even_fits (hr.mono (by decide)) (by rfl) (pa_cons (pv 0) pa_nil)) (pe_ix ix_tup (pe_ix ix_tup (pv 0) pe_int (fun _ _ => rfl)) pe_int (fun _ _ => rfl)) (nomark _)) pa_nil)))), ?_⟩
  have vC : EvD K (tVar 0) (ctx0 1 [dC c]) (.tuple [dS c.bit c.heard, dR c.own c.lot c.done, dT c.n c.z c.o, dB c.b0 c.b1]) := ed_var rfl
  refine rd_ret (EvD.is (ed_intB (ed_neB (i := c.even) (j := c.done) (ed_call (ea_cons (ed_var (d := dC c) rfl) ea_nil) ⟨c, rfl, rfl⟩) (ed_ix (ed_ix (d := .tuple [.int c.own, dLot c.lot, .bool c.done]) vC ed_int (by decide) rfl) ed_int (by decide) rfl))) ?_)
  unfold Ct.must
  cases (c.even != c.done) <;> rfl
abbrev s_must : Stmt := topS 34
theorem sc_must : FnScope ["link", "contents"] ["link", "contents"] (defScope s_must) := ⟨rfl, rfl, rfl, by decide +kernel, rfl, by decide +kernel, by decide +kernel⟩
def R_must (ds : List PyData) (d : PyData) : Prop := ∃ (L : Lk) (c : Ct), L.Ok ∧ c.Ok L ∧ ds = [dL L, dC c] ∧ d = .int c.must
theorem ok_must (F : Fun K "must" "must" s_must f fd) (B : Bt mg) (g_check_fated : Fn P w K mg base 7 "check_fated" ["link", "contents"] (spR K R_check_contents))
    (g_must_in : Fn P w K mg base 2 "must_in" ["contents"] (spR K R_must_in)) : FnOk P w K mg base CX0 8 f fd ["link", "contents"] (spR K R_must) := by
  refine ok_pure (N := ["link", "contents"]) F sc_must (fun ds d ⟨L, c, _, _, h2, _⟩ => by rw [h2]; rfl) fun cdv A outer s H E hr ds d ⟨L, c, hL, hc, h1, h2⟩ => ?_
  subst h1 h2
  refine ⟨_, (pss_cons (ps_expr (pe_fn g_check_fated (hr.mono (by decide)) (by rfl) (pa_cons (pv 0) (pa_cons (pv 1) pa_nil))))
        (pss_one (ps_ret (pe_fn g_must_in (hr.mono (by decide)) (by rfl) (pa_cons (pv 1) pa_nil))))), ?_⟩
  exact rd_seq (rf_drop (ed_call (ea_cons (ed_var (d := dL L) rfl) (ea_cons (ed_var (d := dC c) rfl) ea_nil)) ⟨L, c, hL, hc, rfl, rfl⟩)) (rd_ret (ed_call (ea_cons (ed_var (d := dC c) rfl) ea_nil) ⟨c, rfl, rfl⟩))
end
end Hw

set_option Elab.async false
set_option linter.all false
set_option maxRecDepth 100000
set_option maxHeartbeats 4000000
/-! H4: signs, the table of fates. -/
namespace Hw
open PySem PySem.Spec PyProof.Rows L2

/-! ### lists in expressions -/
section
variable {K : PySem.W.Frag} {Γ : Cty} {ta tb : TE} {t : TT} {ds es : List PyData} {b : Bool}
theorem el_cat (h1 : EvL K ta Γ ds) (h2 : EvL K tb Γ es) (hz : ds.length + es.length ≤ 100000) : EvL K (tOp rCat ta tb) Γ (ds ++ es) := fun σ H E Q q =>
  h1 σ H E _ fun p xs H1 hp s1 l1 t1 => h2 σ H1 (E.gr s1.gr) _ fun r ys H2 hr s2 l2 t2 => ⟨p, r, xs, ys, rfl, rfl, s2 _ _ l1, l2,
    by rw [t1.length, t2.length]; exact Nat.le_trans hz (by decide), fun z hz2 =>
      q z _ _ ((s1.trans s2).free hz2) ((s1.trans s2).trans (same_new hz2)) upd_same (((t1.gr s2.gr).append t2).gr (same_new hz2).gr)⟩
theorem el_if (h : EvB K t Γ b) (h1 : b = true → EvL K ta Γ ds) (h2 : b = false → EvL K tb Γ ds) : EvL K (tIf t ta tb) Γ ds := fun σ H E Q q =>
  h σ H E _ fun H1 s1 => by
    cases b with
    | true => exact iteT (h1 rfl σ H1 (E.gr s1.gr) _ fun p xs H2 hp s2 => q p xs H2 (s1.free hp) (s1.trans s2))
    | false => exact iteF (h2 rfl σ H1 (E.gr s1.gr) _ fun p xs H2 hp s2 => q p xs H2 (s1.free hp) (s1.trans s2))
theorem el_nil : EvL K (tLst tNil) Γ [] := el_lst ea_nil (by simp)
/-- a call that hands back a new list of pure items -/
def spL (K : PySem.W.Frag) (R : List PyData → List PyData → Prop) : Sp := fun vs H Q _ => ∃ ds es, TpA K H vs ds ∧ R ds es ∧ ∀ p xs H', H p = none → Same H H' → H' p = some (.lst xs) → TpA K H' xs es → Q (.ref p) H'
theorem el_call {R : List PyData → List PyData → Prop} {E : XK} {a : TA} (h : EvA K a Γ ds) (hr : R ds es) : EvL K (tCall (spL K R) [] E a) Γ es := fun σ H En Q q =>
  h σ H En _ fun vs H1 s1 t1 => ⟨ds, es, by rw [List.append_nil]; exact t1, hr, fun p xs H2 hp s2 => q p xs H2 (s1.free hp) (s1.trans s2)⟩
/-- a def that does so -/
theorem ok_lst {P : Program} {w : World} {mg : Str → Option Value} {base : Heap} {x qual : Str} {st : Stmt} {f : Addr} {fd : FuncData} {N ps : List Str} {k : Nat} {R : List PyData → List PyData → Prop}
    (F : Fun K x qual st f fd) (S : FnScope N ps (defScope st)) (hlen : ∀ ds d, R ds d → ds.length = ps.length)
    (body : ∀ (cdv : Value) (A : Around) (outer : List Env) (s : Shared) (H : Hp) (E : XK), Room k (A.deeper (envOfC qual (defScope st) s.heap.objs.size f cdv)) → ∀ ds d, R ds d →
      ∃ t, PSs (cxOf CX0 P w K mg base N qual (defScope st) f cdv A outer s H E).nox (defBody st) t ∧ RunL K t (ctx0 N.length ds) d) : FnOk P w K mg base CX0 (k + 1) f fd ps (spL K R) := by
  refine F.ok S (fun vs H Q E h => ?_) (fun cdv A outer s H vs Q E hr h => ?_)
  · obtain ⟨ds, d, h1, h2, _⟩ := h
    rw [h1.length]; exact hlen ds d h2
  · obtain ⟨ds, d, h1, h2, q⟩ := h
    obtain ⟨t, p, r⟩ := body cdv A outer s H E hr ds d h2
    exact ⟨t, p, r _ _ H (env0D h1) q⟩
theorem rl_sT' {t1 u z : TS} {c : TT} (h : EvB K c Γ true) (h1 : RunL K t1 Γ ds) : RunL K (tIfS c t1 u) Γ ds := fun D σ H E k =>
  h σ H E _ fun H1 s1 => iteT (h1 D σ H1 (E.gr s1.gr) fun p xs H2 hp s2 => k p xs H2 (s1.free hp) (s1.trans s2))
end

section
variable {P : Program} {w : World} {K : PySem.W.Frag} {mg : Str → Option Value} {base : Heap} {f : Addr} {fd : FuncData}
/-! ### signs -/
def Ct.oldN (c : Ct) (b : Nat) : Nat := if b = 0 then c.z else c.o
def Ct.ansN (c : Ct) (b : Nat) : Nat := if b = 0 then c.b0 else c.b1
abbrev s_old_of : Stmt := topS 19
theorem sc_old_of : FnScope ["contents", "bit"] ["contents", "bit"] (defScope s_old_of) := ⟨rfl, rfl, rfl, by decide +kernel, rfl, by decide +kernel, by decide +kernel⟩
def R_old_of (ds : List PyData) (d : PyData) : Prop := ∃ (c : Ct) (b : Nat), b ≤ 1 ∧ ds = [dC c, .int b] ∧ d = .int (c.oldN b)
theorem ok_old_of (F : Fun K "old_of" "old_of" s_old_of f fd) : FnOk P w K mg base CX0 1 f fd ["contents", "bit"] (spR K R_old_of) := by
  refine ok_pure (N := ["contents", "bit"]) F sc_old_of (fun ds d ⟨c, b, _, h2, _⟩ => by rw [h2]; rfl) fun cdv A outer s H E hr ds d ⟨c, b, hb, h1, h2⟩ => ?_
  subst h1 h2
  refine ⟨_, (pss_one (ps_ret (pe_ix ix_tup (pe_ix ix_tup (pv 0) pe_int (fun _ _ => rfl)) (pe_op op_add pe_int (pv 1)) (fun _ _ => rfl)))), ?_⟩
  have vC : EvD K (tVar 0) (ctx0 2 [dC c, .int b]) (.tuple [dS c.bit c.heard, dR c.own c.lot c.done, dT c.n c.z c.o, dB c.b0 c.b1]) := ed_var rfl
  refine rd_ret (ed_ix (ed_ix (d := .tuple [.int c.n, .int c.z, .int c.o]) vC ed_int (by decide) rfl) (ed_II (i := 1) (j := b) ed_int (ed_var rfl)) (by omega) ?_)
  have : b = 0 ∨ b = 1 := by omega
  rcases this with rfl | rfl <;> rfl
abbrev s_answers_of : Stmt := topS 20
theorem sc_answers_of : FnScope ["contents", "bit"] ["contents", "bit"] (defScope s_answers_of) := ⟨rfl, rfl, rfl, by decide +kernel, rfl, by decide +kernel, by decide +kernel⟩
def R_answers_of (ds : List PyData) (d : PyData) : Prop := ∃ (c : Ct) (b : Nat), b ≤ 1 ∧ ds = [dC c, .int b] ∧ d = .int (c.ansN b)
theorem ok_answers_of (F : Fun K "answers_of" "answers_of" s_answers_of f fd) : FnOk P w K mg base CX0 1 f fd ["contents", "bit"] (spR K R_answers_of) := by
  refine ok_pure (N := ["contents", "bit"]) F sc_answers_of (fun ds d ⟨c, b, _, h2, _⟩ => by rw [h2]; rfl) fun cdv A outer s H E hr ds d ⟨c, b, hb, h1, h2⟩ => ?_
  subst h1 h2
  refine ⟨_, (pss_one (ps_ret (pe_ix ix_tup (pe_ix ix_tup (pv 0) pe_int (fun _ _ => rfl)) (pv 1) (fun _ _ => rfl)))), ?_⟩
  have vC : EvD K (tVar 0) (ctx0 2 [dC c, .int b]) (.tuple [dS c.bit c.heard, dR c.own c.lot c.done, dT c.n c.z c.o, dB c.b0 c.b1]) := ed_var rfl
  refine rd_ret (ed_ix (ed_ix (d := .tuple [.int c.b0, .int c.b1]) vC ed_int (by decide) rfl) (ed_var (d := .int b) rfl) (by omega) ?_)
  have : b = 0 ∨ b = 1 := by omega
  rcases this with rfl | rfl <;> rfl
abbrev s_answers_in : Stmt := topS 22
theorem sc_answers_in : FnScope ["contents"] ["contents"] (defScope s_answers_in) := ⟨rfl, rfl, rfl, by decide +kernel, rfl, by decide +kernel, by decide +kernel⟩
def Ct.ans (c : Ct) : Nat := c.heard + c.ansN c.bit
def R_answers_in (ds : List PyData) (d : PyData) : Prop := ∃ c : Ct, c.bit ≤ 1 ∧ ds = [dC c] ∧ d = .int c.ans
theorem ok_answers_in (F : Fun K "answers_in" "answers_in" s_answers_in f fd) (g_answers_of : Fn P w K mg base 1 "answers_of" ["contents", "bit"] (spR K R_answers_of)) : FnOk P w K mg base CX0 2 f fd ["contents"] (spR K R_answers_in) := by
  refine ok_pure (N := ["contents"]) F sc_answers_in (fun ds d ⟨c, _, h2, _⟩ => by rw [h2]; rfl) fun cdv A outer s H E hr ds d ⟨c, hb, h1, h2⟩ => ?_
  subst h1 h2
  refine ⟨_, (pss_one (ps_ret (pe_op op_add (pe_ix ix_tup (pe_ix ix_tup (pv 0) pe_int (fun _ _ => rfl)) pe_int (fun _ _ => rfl)) (pe_fn g_answers_of (hr.mono (by decide)) (by rfl) (pa_cons (pv 0) (pa_cons (pe_ix ix_tup (pe_ix ix_tup (pv 0) pe_int (fun _ _ => rfl)) pe_int (fun _ _ => rfl)) pa_nil)))))), ?_⟩
  have vC : EvD K (tVar 0) (ctx0 1 [dC c]) (.tuple [dS c.bit c.heard, dR c.own c.lot c.done, dT c.n c.z c.o, dB c.b0 c.b1]) := ed_var rfl
  refine rd_ret (EvD.is (ed_II (i := c.heard) (j := c.ansN c.bit) (ed_ix (ed_ix (d := .tuple [.int c.bit, .int c.heard]) vC ed_int (by decide) rfl) ed_int (by decide) rfl)
    (ed_call (ea_cons (ed_var (d := dC c) rfl) (ea_cons (ed_ix (d := .int c.bit) (ed_ix (d := .tuple [.int c.bit, .int c.heard]) vC ed_int (by decide) rfl) ed_int (by decide) rfl) ea_nil)) ⟨c, c.bit, hb, rfl, rfl⟩)) ?_)
  unfold Ct.ans
  rw [Int.natCast_add]
abbrev s_old_in : Stmt := topS 23
theorem sc_old_in : FnScope ["contents", "bit", "lot", "done", "kept"] ["contents"] (defScope s_old_in) := ⟨rfl, rfl, rfl, by decide +kernel, rfl, by decide +kernel, by decide +kernel⟩
def Ct.kept (c : Ct) : Nat := match c.lot with
  | some (false, m) => m
  | _ => 0
def Ct.oldc (c : Ct) : Nat := c.oldN (1 - c.own) + c.kept
def R_old_in (ds : List PyData) (d : PyData) : Prop := ∃ c : Ct, c.own ≤ 1 ∧ ds = [dC c] ∧ d = .int c.oldc
theorem ok_old_in (F : Fun K "old_in" "old_in" s_old_in f fd) (g_old_of : Fn P w K mg base 1 "old_of" ["contents", "bit"] (spR K R_old_of)) : FnOk P w K mg base CX0 2 f fd ["contents"] (spR K R_old_in) := by
  refine ok_pure (N := ["contents", "bit", "lot", "done", "kept"]) F sc_old_in (fun ds d ⟨c, _, h2, _⟩ => by rw [h2]; rfl) fun cdv A outer s H E hr ds d ⟨c, hb, h1, h2⟩ => ?_
  subst h1 h2
  refine ⟨_, (pss_cons (ps_asg (pe_ix ix_tup (pv 0) pe_int (fun _ _ => rfl)) (pg_tup rfl (pgs_cons (pg_name (i := 1) sc_old_in.nd rfl (.inl rfl)) (pgs_cons (pg_name (i := 2) sc_old_in.nd rfl (.inl rfl)) (pgs_cons (pg_name (i := 3) sc_old_in.nd rfl (.inl rfl)) pgs_nil)))))
        (pss_cons (ps_set (i := 4) sc_old_in.nd rfl (.inl rfl) (pe_ifExp (PW.pt (pw_and (pt_cmp (pc_notN (pv 2)) rfl) (pw_and1 (pt_cmpR op_eq (pe_ix ix_tup (pv 2) pe_int (fun _ _ => rfl)) pe_str (nomark _))))) (pe_ix ix_tup (pv 2) pe_int (fun _ _ => rfl)) pe_int))
        (pss_one (ps_ret (pe_op op_add (pe_fn g_old_of (hr.mono (by decide)) (by rfl) (pa_cons (pv 0) (pa_cons (pe_op op_sub pe_int (pv 1)) pa_nil))) (pv 4)))))), ?_⟩
  have vC : EvD K (tVar 0) (ctx0 5 [dC c]) (.tuple [dS c.bit c.heard, dR c.own c.lot c.done, dT c.n c.z c.o, dB c.b0 c.b1]) := ed_var rfl
  refine rd_seq (rf_tg (ed_ix (d := dR c.own c.lot c.done) vC ed_int (by decide) rfl) (tg_tup (ds := [.int c.own, dLot c.lot, .bool c.done]) (tgs_cons tg_name (tgs_cons tg_name (tgs_cons tg_name tgs_nil))) rfl)) ?_
  refine rd_seq (rf_asg (d := .int c.kept) ?_) (rd_ret ?_)
  · unfold Ct.kept
    cases e : c.lot with
    | none => exact ed_ifF (eb_andF (eb_val (EvD.is (ed_notN (d := .none) (ed_var rfl)) rfl))) ed_int
    | some x =>
      obtain ⟨nw, m⟩ := x
      have vl : EvD K (tVar 2) ((((ctx0 5 [dC c]).set 1 (some (.dat (.int c.own)))).set 2 (some (.dat (dLot (some (nw, m)))))).set 3 (some (.dat (.bool c.done)))) (.tuple [.str (if nw then "new" else "old"), .int m]) := ed_var (by rw [lot_str]; rfl)
      cases nw with
      | true => exact ed_ifF (EvB.is (eb_andT (eb_val (EvD.is (ed_notN vl) rfl)) (eb_test (ed_eqS (ed_ix (d := .str "new") vl ed_int (by decide) rfl) ed_str))) (by decide)) ed_int
      | false => exact ed_ifT (EvB.is (eb_andT (eb_val (EvD.is (ed_notN vl) rfl)) (eb_test (ed_eqS (ed_ix (d := .str "old") vl ed_int (by decide) rfl) ed_str))) (by decide)) (ed_ix (d := .int m) vl ed_int (by decide) rfl)
  · refine EvD.is (ed_II (i := c.oldN (1 - c.own)) (j := c.kept) (ed_call (ea_cons (ed_var (d := dC c) rfl) (ea_cons (ed_II (i := 1) (j := c.own) ed_int (ed_var rfl)) ea_nil)) ⟨c, 1 - c.own, by omega, ?_, rfl⟩) (ed_var rfl)) ?_
    · rw [show ((1 - c.own : Nat) : Int) = 1 - (c.own : Int) by omega]
    · unfold Ct.oldc
      rw [Int.natCast_add]
abbrev s_signs_in : Stmt := topS 24
theorem sc_signs_in : FnScope ["link", "contents"] ["link", "contents"] (defScope s_signs_in) := ⟨rfl, rfl, rfl, by decide +kernel, rfl, by decide +kernel, by decide +kernel⟩
def Ct.enA (L : Lk) (c : Ct) : Bool := decide (L.q ≤ c.ans)
def Ct.enO (L : Lk) (c : Ct) : Bool := decide (L.p ≤ c.oldc)
def R_signs_in (ds : List PyData) (d : PyData) : Prop := ∃ (L : Lk) (c : Ct), c.Ok L ∧ ds = [dL L, dC c] ∧ d = .tuple [.bool c.even, .bool c.done, .bool (c.enA L), .bool (c.enO L)]
theorem ok_signs_in (F : Fun K "signs_in" "signs_in" s_signs_in f fd) (g_even_fits : Fn P w K mg base 1 "even_fits" ["contents"] (spR K R_even)) (g_answers_in : Fn P w K mg base 2 "answers_in" ["contents"] (spR K R_answers_in))
    (g_old_in : Fn P w K mg base 2 "old_in" ["contents"] (spR K R_old_in)) : FnOk P w K mg base CX0 3 f fd ["link", "contents"] (spR K R_signs_in) := by
  refine ok_pure (N := ["link", "contents"]) F sc_signs_in (fun ds d ⟨L, c, _, h2, _⟩ => by rw [h2]; rfl) fun cdv A outer s H E hr ds d ⟨L, c, hc, h1, h2⟩ => ?_
  subst h1 h2
  refine ⟨_, (pss_one (ps_ret (pe_tup (pa_cons (pe_fn g_even_fits (hr.mono (by decide)) (by rfl) (pa_cons (pv 1) pa_nil)) (pa_cons (pe_ix ix_tup (pe_ix ix_tup (pv 1) pe_int (fun _ _ => rfl)) pe_int (fun _ _ => rfl)) (pa_cons (pe_cmpR op_ge (pe_fn g_answers_in (hr.mono (by decide)) (by rfl) (pa_cons (pv 1) pa_nil)) (pe_ix ix_tup (pv 0) pe_int (fun _ _ => rfl)) (nomark _)) (pa_cons (pe_cmpR op_ge (pe_fn g_old_in (hr.mono (by decide)) (by rfl) (pa_cons (pv 1) pa_nil)) (pe_ix ix_tup (pv 0) pe_int (fun _ _ => rfl)) (nomark _)) pa_nil))))))), ?_⟩
  have vC : EvD K (tVar 1) (ctx0 2 [dL L, dC c]) (.tuple [dS c.bit c.heard, dR c.own c.lot c.done, dT c.n c.z c.o, dB c.b0 c.b1]) := ed_var rfl
  have vL : EvD K (tVar 0) (ctx0 2 [dL L, dC c]) (.tuple [.int L.c, .int L.d, .int L.p, .int L.q]) := ed_var rfl
  refine rd_ret (EvD.is (ed_tup (ea_cons (ed_call (ea_cons (ed_var (d := dC c) rfl) ea_nil) ⟨c, rfl, rfl⟩) (ea_cons (ed_ix (d := .bool c.done) (ed_ix (d := .tuple [.int c.own, dLot c.lot, .bool c.done]) vC ed_int (by decide) rfl) ed_int (by decide) rfl)
    (ea_cons (ed_IB (i := c.ans) (j := L.q) (ed_call (ea_cons (ed_var (d := dC c) rfl) ea_nil) ⟨c, hc.bit, rfl, rfl⟩) (ed_ix vL ed_int (by decide) rfl))
    (ea_cons (ed_IB (i := c.oldc) (j := L.p) (ed_call (ea_cons (ed_var (d := dC c) rfl) ea_nil) ⟨c, hc.own, rfl, rfl⟩) (ed_ix vL ed_int (by decide) rfl)) ea_nil)))) (by simp)) ?_)
  unfold Ct.enA Ct.enO
  have e1 : decide ((L.q : Int) ≤ (c.ans : Int)) = decide (L.q ≤ c.ans) := decide_eq_decide.mpr (by omega)
  have e2 : decide ((L.p : Int) ≤ (c.oldc : Int)) = decide (L.p ≤ c.oldc) := decide_eq_decide.mpr (by omega)
  rw [e1, e2]

/-! ### the table of fates -/
abbrev s_longest_fates : Stmt := topS 29
theorem sc_longest_fates : FnScope ["link", "contents", "even", "done", "answers", "old"] ["link", "contents"] (defScope s_longest_fates) := ⟨rfl, rfl, rfl, by decide +kernel, rfl, by decide +kernel, by decide +kernel⟩
def lfS (e d a o : Bool) : List Str :=
  if e then
    if d then (if o then [("mt" : Str)] else []) ++ (if o && a then [("ml" : Str), ("mm" : Str)] else [])
    else [("l" : Str)] ++ (if o then [("m" : Str)] else []) ++ (if o && a then [("lml" : Str), ("mll" : Str), ("mlm" : Str)] else [])
  else if d then [("t" : Str)] ++ (if a then [("l" : Str), ("m" : Str)] else []) ++ (if o then [("m" : Str)] else [])
  else (if a then [("ll" : Str), ("lm" : Str)] else []) ++ (if o then [("ml" : Str)] else [])
def R_longest (ds : List PyData) (es : List PyData) : Prop := ∃ (L : Lk) (c : Ct), c.Ok L ∧ ds = [dL L, dC c] ∧ es = (lfS c.even c.done (c.enA L) (c.enO L)).map .str
theorem ok_longest (F : Fun K "longest_fates" "longest_fates" s_longest_fates f fd) (g_signs_in : Fn P w K mg base 3 "signs_in" ["link", "contents"] (spR K R_signs_in)) : FnOk P w K mg base CX0 4 f fd ["link", "contents"] (spL K R_longest) := by
  refine ok_lst (N := ["link", "contents", "even", "done", "answers", "old"]) F sc_longest_fates (fun ds d ⟨L, c, _, h2, _⟩ => by rw [h2]; rfl) fun cdv A outer s H E hr ds d ⟨L, c, hc, h1, h2⟩ => ?_
  subst h1 h2
  refine ⟨_, (pss_cons (ps_asg (pe_fn g_signs_in (hr.mono (by decide)) (by rfl) (pa_cons (pv 0) (pa_cons (pv 1) pa_nil))) (pg_tup rfl (pgs_cons (pg_name (i := 2) sc_longest_fates.nd rfl (.inl rfl)) (pgs_cons (pg_name (i := 3) sc_longest_fates.nd rfl (.inl rfl)) (pgs_cons (pg_name (i := 4) sc_longest_fates.nd rfl (.inl rfl)) (pgs_cons (pg_name (i := 5) sc_longest_fates.nd rfl (.inl rfl)) pgs_nil))))))
        (pss_cons (ps_if (pt_val (pv 2))
         (pss_cons (ps_if (pt_val (pv 3))
           (pss_one (ps_ret (pe_op op_cat (pe_ifExp (pt_val (pv 5)) (pe_lst (pa_cons pe_str pa_nil)) (pe_lst pa_nil)) (pe_ifExp (PW.pt (pw_and (pt_val (pv 5)) (pw_and1 (pt_val (pv 4))))) (pe_lst (pa_cons pe_str (pa_cons pe_str pa_nil))) (pe_lst pa_nil)))))
           pss_nil)
          (pss_one (ps_ret (pe_op op_cat (pe_op op_cat (pe_lst (pa_cons pe_str pa_nil)) (pe_ifExp (pt_val (pv 5)) (pe_lst (pa_cons pe_str pa_nil)) (pe_lst pa_nil))) (pe_ifExp (PW.pt (pw_and (pt_val (pv 5)) (pw_and1 (pt_val (pv 4))))) (pe_lst (pa_cons pe_str (pa_cons pe_str (pa_cons pe_str pa_nil)))) (pe_lst pa_nil))))))
         pss_nil)
        (pss_cons (ps_if (pt_val (pv 3))
         (pss_one (ps_ret (pe_op op_cat (pe_op op_cat (pe_lst (pa_cons pe_str pa_nil)) (pe_ifExp (pt_val (pv 4)) (pe_lst (pa_cons pe_str (pa_cons pe_str pa_nil))) (pe_lst pa_nil))) (pe_ifExp (pt_val (pv 5)) (pe_lst (pa_cons pe_str pa_nil)) (pe_lst pa_nil)))))
         pss_nil)
        (pss_one (ps_ret (pe_op op_cat (pe_ifExp (pt_val (pv 4)) (pe_lst (pa_cons pe_str (pa_cons pe_str pa_nil))) (pe_lst pa_nil)) (pe_ifExp (pt_val (pv 5)) (pe_lst (pa_cons pe_str pa_nil)) (pe_lst pa_nil)))))))), ?_⟩
  refine rl_seq (rf_tg (ed_call (ea_cons (ed_var (d := dL L) rfl) (ea_cons (ed_var (d := dC c) rfl) ea_nil)) ⟨L, c, hc, rfl, rfl⟩) (tg_tup (tgs_cons tg_name (tgs_cons tg_name (tgs_cons tg_name (tgs_cons tg_name tgs_nil)))) rfl)) ?_
  generalize c.even = e
  generalize c.done = d
  generalize c.enA L = a
  generalize c.enO L = o
  have s1 : ∀ (Γ : Cty) (x : Str), EvL K (tLst (tCons (tC (.str x)) tNil)) Γ [.str x] := fun Γ x => el_lst (ea_cons ed_str ea_nil) (by simp)
  have s2 : ∀ (Γ : Cty) (x y : Str), EvL K (tLst (tCons (tC (.str x)) (tCons (tC (.str y)) tNil))) Γ [.str x, .str y] := fun Γ x y => el_lst (ea_cons ed_str (ea_cons ed_str ea_nil)) (by simp)
  have s3 : ∀ (Γ : Cty) (x y z : Str), EvL K (tLst (tCons (tC (.str x)) (tCons (tC (.str y)) (tCons (tC (.str z)) tNil)))) Γ [.str x, .str y, .str z] := fun Γ x y z => el_lst (ea_cons ed_str (ea_cons ed_str (ea_cons ed_str ea_nil))) (by simp)
  have pick : ∀ {Γ : Cty} {t : TT} {tl : TE} {b : Bool} {ds : List PyData}, EvB K t Γ b → EvL K tl Γ ds → EvL K (tIf t tl (tLst tNil)) Γ (if b then ds else []) := fun {Γ t tl b ds} h1 h2 =>
    el_if h1 (fun e => by rw [e]; exact h2) (fun e => by rw [e]; exact el_nil)
  have lenP : ∀ (b : Bool) (ds : List PyData) (n : Nat), ds.length ≤ n → (if b then ds else []).length ≤ n := fun b ds n h => by cases b <;> simp <;> exact h
  unfold lfS
  have vB : ∀ {Γ : Cty} {i : Nat} {b : Bool}, Γ[i]? = some (some (.dat (.bool b))) → EvB K (tB (tVar i)) Γ b := fun h => eb_val (ed_var h)
  cases e with
  | true =>
    refine rl_sT (vB rfl) ?_
    cases d with
    | true =>
      refine rl_sT (vB rfl) (rl_ret (EvL.is (el_cat (pick (b := o) (vB rfl) (s1 _ _)) (pick (b := o && a) (eb_and (vB rfl) (fun _ => vB rfl)) (s2 _ _ _)) ?_) ?_))
      · cases o <;> cases a <;> simp
      · cases o <;> cases a <;> rfl
    | false =>
      refine rl_skip (vB rfl) (rl_ret (EvL.is (el_cat (el_cat (s1 _ _) (pick (b := o) (vB rfl) (s1 _ _)) ?_) (pick (b := o && a) (eb_and (vB rfl) (fun _ => vB rfl)) (s3 _ _ _ _)) ?_) ?_))
      · cases o <;> simp
      · cases o <;> cases a <;> simp
      · cases o <;> cases a <;> rfl
  | false =>
    refine rl_skip (vB rfl) ?_
    cases d with
    | true =>
      refine rl_sT (vB rfl) (rl_ret (EvL.is (el_cat (el_cat (s1 _ _) (pick (b := a) (vB rfl) (s2 _ _ _)) ?_) (pick (b := o) (vB rfl) (s1 _ _)) ?_) ?_))
      · cases a <;> simp
      · cases o <;> cases a <;> simp
      · cases o <;> cases a <;> rfl
    | false =>
      refine rl_skip (vB rfl) (rl_ret (EvL.is (el_cat (pick (b := a) (vB rfl) (s2 _ _ _)) (pick (b := o) (vB rfl) (s1 _ _)) ?_) ?_))
      · cases o <;> cases a <;> simp
      · cases o <;> cases a <;> rfl
end
end Hw

set_option Elab.async false
set_option linter.all false
set_option maxRecDepth 100000
set_option maxHeartbeats 4000000
/-! H5: all fates, the first kinds. -/
namespace Hw
open PySem PySem.Spec PyProof.Rows L2

/-! ### words and their beginnings -/
def pre (w : Str) (n : Nat) : Str := cutS w none (some (n : Int))
def addK (ks : List Str) (x : Str) : List Str := if x ∈ ks then ks else ks ++ [x]
def addW (ks : List Str) (x : Str) : List Str := (List.range x.length).foldl (fun ks j => addK ks (pre x (j + 1))) ks
def wordsK (l : List Str) : List Str := l.foldl addW [("" : Str)]
def trueK (ks : List Str) : List (Key × V) := ks.map fun x => (Sum.inr x, V.bl true)
theorem putK_true (ks : List Str) (x : Str) : putK (trueK ks) (Sum.inr x) (.bl true) = trueK (addK ks x) := by
  have key : ∀ l : List Str, (trueK l).any (fun kv => decide (kv.1 = Sum.inr x)) = decide (x ∈ l) := by
    intro l
    induction l with
    | nil => rfl
    | cons a r ih =>
      show (decide ((Sum.inr a : Key) = Sum.inr x) || (trueK r).any _) = _
      rw [ih, key_rr]
      by_cases h : a = x
      · subst h; simp
      · have h' : x ≠ a := fun e => h e.symm
        simp [h, h']
  unfold putK addK
  rw [key]
  by_cases h : x ∈ ks
  · rw [if_pos h, if_pos (decide_eq_true h)]
    unfold trueK
    rw [List.map_map]
    refine List.map_congr_left fun a _ => ?_
    show (if (Sum.inr a : Key) = Sum.inr x then ((Sum.inr a : Key), V.bl true) else (Sum.inr a, V.bl true)) = _
    split <;> rfl
  · rw [if_neg h, if_neg (by simpa using h)]
    unfold trueK
    rw [List.map_append]; rfl
theorem trueK_keys (ks : List Str) : (trueK ks).map (·.1) = ks.map Sum.inr := by unfold trueK; rw [List.map_map]; rfl
def letterW (c : Nat) : Str := if c = 108 then "lost" else if c = 109 then "made" else "twice"
def lettersOf (y : Str) : List Str := y.cps.toList.map letterW
def okWord (y : Str) : Bool := (y.cps.toList.all fun c => c == 108 || c == 109 || c == 116) && decide (y.cps.toList.length ≤ 3)
theorem words_ok : ∀ e d a o : Bool, (wordsK (lfS e d a o)).all okWord = true ∧ (wordsK (lfS e d a o)).length < 60 ∧ (lfS e d a o).all (fun x => decide (x.length ≤ 3)) = true := by decide +kernel
theorem TpA.strs_inv {K : PySem.W.Frag} : ∀ {ns : List Str} {H : Hp} {vs : List V}, TpA K H vs (ns.map .str) → vs = ns.map V.str
  | [], _, _, h => by cases h; rfl
  | n :: ns, _, _, h => by
    cases h with
    | cons h1 h2 => rw [h1.str_inv, TpA.strs_inv h2]; rfl
theorem addW_foldl (l : List Str) (i : Nat) (x : Str) (h : l[i]? = some x) : (l.take (i + 1)).foldl addW [("" : Str)] = addW ((l.take i).foldl addW [("" : Str)]) x := by
  rw [List.take_add_one, h, List.foldl_append]; rfl
theorem range_foldl {α : Type} (f : α → Nat → α) (a : α) (j : Nat) : (List.range (j + 1)).foldl f a = f ((List.range j).foldl f a) j := by
  rw [List.range_succ, List.foldl_append]; rfl
theorem addK_len (ks : List Str) (x : Str) : (addK ks x).length ≤ ks.length + 1 := by
  unfold addK; split
  · omega
  · rw [List.length_append]; simp
theorem addN_len (x : Str) : ∀ (j : Nat) (ks : List Str), ((List.range j).foldl (fun ks j => addK ks (pre x (j + 1))) ks).length ≤ ks.length + j
  | 0, ks => by simp
  | j + 1, ks => by
    rw [range_foldl]
    have := addN_len x j ks
    have h2 := addK_len ((List.range j).foldl (fun ks j => addK ks (pre x (j + 1))) ks) (pre x (j + 1))
    omega
theorem str_small {x : Str} (h : x.length ≤ 3) : x.length ≤ sizeLine := Nat.le_trans h (by decide)
/-- LETTERS stands in the written part -/
def HasLetters (K : PySem.W.Frag) (w : World) (a : Addr) : Prop := ∀ c : Nat, c = 108 ∨ c = 109 ∨ c = 116 → KDct K w a ⟨#[c]⟩ (.str (letterW c))

theorem paired_snoc {α β : Type} {R : α → β → Prop} : ∀ {l : List α} {m : List β} {a : α} {b : β}, Paired R l m → R a b → Paired R (l ++ [a]) (m ++ [b])
  | _, _, _, _, .nil, h => .cons h .nil
  | _, _, _, _, .cons r t, h => .cons r (paired_snoc t h)
theorem paired_get {α β : Type} {R : α → β → Prop} : ∀ {l : List α} {m : List β} {i : Nat} {a : α}, Paired R l m → l[i]? = some a → ∃ b, m[i]? = some b ∧ R a b
  | _, _, _, _, .nil, h => by simp at h
  | _, _, 0, _, .cons r t, h => by simp at h; subst h; exact ⟨_, rfl, r⟩
  | _, _, i + 1, a, .cons r t, h => by
    obtain ⟨b, h1, h2⟩ := paired_get (i := i) (a := a) t (by simpa using h)
    exact ⟨b, by simpa using h1, h2⟩
theorem lc_yes {σ : L2.St} {H : Hp} {A : Hp → Prop} {B : Hp → Prop} (h : A H) : tYes σ H fun b H3 => if b = true then A H3 else B H3 := by
  show (if true = true then A H else B H)
  rw [if_pos rfl]; exact h
def lcSc : Expr → Scope
  | .ListComp _ _ sc _ => sc
  | _ => { kind := .function, names := [], isGenerator := false, isCoroutine := false }
def retE : List Stmt → Expr
  | [.Return (some e) _] => e
  | _ :: r => retE r
  | [] => .Constant .none 0 ⟨0, 0, 0, 0⟩

section
variable {P : Program} {w : World} {K : PySem.W.Frag} {mg : Str → Option Value} {base : Heap} {f : Addr} {fd : FuncData}
abbrev s_fates_in : Stmt := topS 30
theorem sc_fates_in : FnScope ["link", "contents", "words", "word", "size", "letter"] ["link", "contents"] (defScope s_fates_in) := ⟨rfl, rfl, rfl, by decide +kernel, rfl, by decide +kernel, by decide +kernel⟩
def spFates (K : PySem.W.Frag) : Sp := fun vs H Q _ => ∃ (L : Lk) (c : Ct), c.Ok L ∧ TpA K H vs [dL L, dC c] ∧
  ∀ (p : Addr) (qs : List Addr) (ys : List Str) (H' : Hp), ys.Perm (wordsK (lfS c.even c.done (c.enA L) (c.enO L))) → H p = none → Same H H' → H' p = some (.lst (qs.map V.ref)) → Paired (fun q y => H' q = some (.lst ((lettersOf y).map V.str))) qs ys → Q (.ref p) H'
theorem ok_fates_in (F : Fun K "fates_in" "fates_in" s_fates_in f fd) (B : Bt mg) {a_LETTERS : Addr} (m_LETTERS : mg "LETTERS" = some (.ref a_LETTERS)) (hLet : HasLetters K w a_LETTERS)
    (g_longest_fates : Fn P w K mg base 4 "longest_fates" ["link", "contents"] (spL K R_longest)) : FnOk P w K mg base CX0 5 f fd ["link", "contents"] (spFates K) := by
  refine F.ok sc_fates_in (fun vs H Q E h => ?_) (fun cdv A outer s H vs Q E hr h => ?_)
  · obtain ⟨L, c, _, t, _⟩ := h
    exact t.length
  · obtain ⟨L, c, hc, t, q⟩ := h
    have hu := hu_of hr
    refine ⟨_, (pss_cons (ps_set (i := 2) sc_fates_in.nd rfl (.inl rfl) (pe_disp (pps_cons pe_str pe_bl pps_nil) (by rfl) (by rfl) (fun z => by cases z) (by decide)))
        (pss_cons (ps_for PassesOwn.never rfl (pi_list (pe_fn g_longest_fates (hr.mono (by decide)) (by rfl) (pa_cons (pv 0) (pa_cons (pv 1) pa_nil)))) (pg_name (i := 3) sc_fates_in.nd rfl (.inl rfl))
         (pss_one (ps_for PassesOwn.never rfl (pi_range1 (by rfl) B.range (pa_cons (pe_callB call_len_str (by rfl) B.len PySem.boot_len (pa_cons (pv 3) pa_nil)) pa_nil)) (pg_name (i := 4) sc_fates_in.nd rfl (.inl rfl))
           (pss_one (ps_dput hu (pv 2) (pe_slice sl_str (pv 3) po_none (po_some (pe_op op_add (pv 4) pe_int))) pe_bl rfl)))))
        (pss_one (ps_ret (pe_lc (own := [("word", 3)]) (g := gName 3) rfl sc_fates_in.nd (pi_list (pe_callB (call_sortedD rfl) (by rfl) B.sorted (by decide +kernel) (pa_cons (pv 2) pa_nil))) (blkOk_by (N := ["link", "contents", "words", "word", "size", "letter"]) (sc := defScope s_fates_in) (by decide +kernel)) (fun _ _ _ _ _ => (pg_name (i := 3) sc_fates_in.nd rfl (.inl rfl))) (fun _ _ _ _ _ => pts_nil) (fun _ _ _ _ _ => (pe_lc (own := [("letter", 5)]) (g := gName 5) rfl sc_fates_in.nd (pi_str (pv 3)) (blkOk_by (N := ["link", "contents", "words", "word", "size", "letter"]) (sc := { kind := .function, names := [(".0", .local), ("word", .local)], isGenerator := false, isCoroutine := false }) (by decide +kernel)) (fun _ _ _ _ _ => (pg_name (i := 5) sc_fates_in.nd rfl (.inl rfl))) (fun _ _ _ _ _ => pts_nil) (fun _ _ _ _ _ => (pe_ix (show IxR _ (rIxD K w) from ix_kdict) (pe_glob (v := .ref a_LETTERS) (by rfl) m_LETTERS rfl) (pv 5) (fun _ _ => rfl)))))))))), ?_⟩
    have E0 := env0D (N := ["link", "contents", "words", "word", "size", "letter"]) t
    obtain ⟨v0, v1, rfl⟩ : ∃ v0 v1, vs = [v0, v1] := by
      cases t with
      | cons h1 t => cases t with
        | cons h2 t => cases t; exact ⟨_, _, rfl⟩
    obtain ⟨hw1, hw2, hw3⟩ := words_ok c.even c.done (c.enA L) (c.enO L)
    generalize hlf : lfS c.even c.done (c.enA L) (c.enO L) = lf at *
    -- words = {"": True}
    intro wd hwd
    refine ⟨upd_same, [(Sum.inr "", V.bl true)], rfl, by decide, ?_⟩
    rw [upd_upd]
    have s1 : Same H (upd H wd (.dK (trueK [""]))) := same_new hwd
    have E1 := (E0.gr s1.gr).set (v := .ref wd) (A := .val (.ref wd)) 2 rfl
    -- for word in longest_fates(link, contents)
    have hl : EvL K (tCall (spL K R_longest) [] L2.E0 (tCons (tVar 0) (tCons (tVar 1) tNil))) ((ctx0 6 [dL L, dC c]).set 2 (some (.val (.ref wd)))) (lf.map .str) :=
      el_call (ea_cons (ed_var rfl) (ea_cons (ed_var rfl) ea_nil)) ⟨L, c, hc, rfl, by rw [hlf]⟩
    refine hl _ _ E1 _ fun a xs H2 ha s2 l2 t2 => ?_
    have ex := t2.strs_inv
    subst ex
    refine ⟨a, rfl, ⟨_, SqL.of l2⟩, ?_⟩
    have naw : a ≠ wd := fun e => by rw [e, upd_same] at ha; cases ha
    refine for_list (K := K) (a := a) (xs := lf.map V.str) (fun i σ' H' => ∃ o3 o4, σ' = [some v0, some v1, some (.ref wd), o3, o4, none] ∧ Same H H' ∧ H' wd = some (.dK (trueK ((lf.take i).foldl addW [""]))) ∧ H' a = some (.lst (lf.map V.str)) ∧ ((lf.take i).foldl addW [""]).length ≤ 1 + 3 * i)
      ⟨none, none, rfl, s1.trans s2, s2 _ _ upd_same, l2, by simp⟩ (fun i σ' H' _ ⟨_, _, _, _, _, h, _⟩ => SqL.of h) ?_ ?_
    · rintro i y σ' H' hi ⟨o3, o4, rfl, sm, hd, hA, hlen⟩
      obtain ⟨x, hx, rfl⟩ : ∃ x, lf[i]? = some x ∧ y = V.str x := by
        rw [List.getElem?_map] at hi
        obtain ⟨x, h1, h2⟩ := Option.map_eq_some_iff.mp hi
        exact ⟨x, h1, h2.symm⟩
      have hx3 : x.length ≤ 3 := of_decide_eq_true (List.all_eq_true.mp hw3 x (List.mem_of_getElem? hx))
      have hi8 : i < 8 := by
        have h1 := (List.getElem?_eq_some_iff.mp hx).1
        have h2 : (lfS c.even c.done (c.enA L) (c.enO L)).length ≤ 8 := by
          generalize c.even = e1; generalize c.done = e2; generalize c.enA L = e3; generalize c.enO L = e4
          revert e1 e2 e3 e4; decide
        rw [hlf] at h2; omega
      -- for size in range(len(word))
      refine ⟨_, rfl, x, rfl, str_small hx3, (x.length : Int), rfl, by omega, by omega, ?_⟩
      refine for_range (lo := 0) (n := ((x.length : Int)).toNat) (fun j σ2 H2 => ∃ o4, σ2 = [some v0, some v1, some (.ref wd), some (.str x), o4, none] ∧ Same H H2 ∧
          H2 wd = some (.dK (trueK ((List.range j).foldl (fun ks j => addK ks (pre x (j + 1))) ((lf.take i).foldl addW [""])))) ∧ H2 a = some (.lst (lf.map V.str))) ⟨o4, rfl, sm, hd, hA⟩ ?_ ?_
      · rintro j σ2 H2 hj ⟨o4', rfl, sm2, hd2, hA2⟩
        have hj3 : j < x.length := by omega
        -- words[word[:size + 1]] = True
        have ej : (0 + (j : Int)) + 1 = ((j + 1 : Nat) : Int) := by omega
        refine ⟨_, rfl, _, rfl, _, rfl, _, _, rfl, rfl, _, rfl, x, rfl, str_small hx3, wd, upd H2 wd (.dK (putK (trueK ((List.range j).foldl (fun ks j => addK ks (pre x (j + 1))) ((lf.take i).foldl addW [""]))) (Sum.inr (pre x (j + 1))) (.bl true))), rfl, ?_, ?_⟩
        · rw [ej]
          refine DPut.k (k := Sum.inr (pre x (j + 1))) hd2 ?_
          unfold trueK
          rw [List.length_map]
          have := addN_len x j ((lf.take i).foldl addW [""])
          exact Nat.lt_of_lt_of_le (show _ < 1000 by omega) (by decide)
        · refine ⟨_, rfl, same_mut sm2 hwd, ?_, ?_⟩
          · rw [upd_same, putK_true, range_foldl]
          · rw [upd_ne naw]; exact hA2
      · rintro σ2 H2 ⟨o4', rfl, sm2, hd2, hA2⟩
        refine ⟨_, _, rfl, sm2, ?_, hA2, ?_⟩
        · rw [hd2, addW_foldl lf i x hx]
          simp only [Int.toNat_natCast]
          rfl
        · rw [addW_foldl lf i x hx]
          have := addN_len x x.length ((lf.take i).foldl addW [""])
          show ((List.range x.length).foldl (fun ks j => addK ks (pre x (j + 1))) ((lf.take i).foldl addW [""])).length ≤ _
          omega
    · rintro σ' H' ⟨o3, o4, rfl, sm, hd, hA, hlen⟩
      rw [List.length_map, List.take_length] at hd
      -- sorted(words), the two comprehensions
      refine ⟨_, rfl, wd, _, wordsK lf, rfl, .inl hd, trueK_keys _, by omega, fun ys p hp _ hnp => ?_⟩
      have nwp : wd ≠ p := ne_of_none hd hnp
      have sp : Same H' (upd H' p (.lst (ys.map V.str))) := same_new hnp
      have hyok : ∀ y ∈ ys, okWord y = true := fun y hy => List.all_eq_true.mp hw1 y (hp.mem_iff.mp hy)
      have hylen : ys.length < 60 := by rw [hp.length_eq]; exact hw2
      refine ⟨p, rfl, ⟨_, SqL.of upd_same⟩, fun D hD => ?_⟩
      have nDp : D ≠ p := fun e => by rw [e, upd_same] at hD; cases hD
      refine lc_list (K := K) (a := p) (xs := ys.map V.str) (fun i H2 => ∃ qs : List Addr, H2 D = some (.lst (qs.map V.ref)) ∧ Same (upd H' p (.lst (ys.map V.str))) H2 ∧ Paired (fun q y => H2 q = some (.lst ((lettersOf y).map V.str)) ∧ q ≠ D) qs (ys.take i))
        ⟨[], upd_same, same_new hD, .nil⟩ (fun i H2 _ ⟨_, _, h, _⟩ => SqL.of (h _ _ upd_same)) ?_ ?_
      · rintro i y H2 hi ⟨qs, hq, sm2, hpr⟩
        obtain ⟨x, hx, rfl⟩ : ∃ x, ys[i]? = some x ∧ y = V.str x := by
          rw [List.getElem?_map] at hi
          obtain ⟨x, h1, h2⟩ := Option.map_eq_some_iff.mp hi
          exact ⟨x, h1, h2.symm⟩
        have hi60 := (List.getElem?_eq_some_iff.mp hx).1
        have hxo := hyok x (List.mem_of_getElem? hx)
        refine ⟨rfl, lc_yes ?_⟩
        -- [LETTERS[letter] for letter in word]
        refine ⟨_, rfl, x, rfl, fun D2 hD2 => ?_⟩
        have nD2 : D ≠ D2 := ne_of_none hq hD2
        refine lc_it (walk_str (z := x)) (fun j H3 => H3 D2 = some (.lst ((x.cps.toList.take j).map fun c => V.str (letterW c))) ∧ Same H2 H3) ⟨upd_same, same_new hD2⟩ (fun _ _ _ _ => trivial) ?_ ?_
        · rintro j v H3 H4 hj ⟨h3, sm3⟩ ⟨rfl, c, hc1, rfl⟩
          have hcl : x.cps.toList[j]? = some c := by rw [Array.getElem?_toList]; exact hc1
          have hco : c = 108 ∨ c = 109 ∨ c = 116 := by
            have := List.all_eq_true.mp (Bool.and_eq_true_iff.mp hxo).1 c (List.mem_of_getElem? hcl)
            simpa [or_assoc] using this
          have hj8 : (x.cps.toList.take j).length < 1000000 := by
            have := of_decide_eq_true (Bool.and_eq_true_iff.mp hxo).2
            rw [List.length_take]; omega
          refine ⟨rfl, lc_yes ⟨_, rfl, a_LETTERS, _, _, rfl, rfl, hLet c hco, _, h3, ?_, ?_, ?_⟩⟩
          · rw [List.length_map]; exact Nat.lt_of_lt_of_le hj8 (by decide)
          · rw [upd_same, List.take_add_one, hcl, List.map_append]; rfl
          · exact same_mut sm3 hD2
        · rintro H3 ⟨h3, sm3⟩
          have hfull : x.cps.toList.take x.cps.size = x.cps.toList := List.take_of_length_le (by simp)
          rw [hfull] at h3
          refine ⟨_, sm3 _ _ hq, ?_, qs ++ [D2], ?_, ?_, ?_⟩
          · rw [List.length_map, Paired.length hpr, List.length_take]
            exact Nat.lt_of_lt_of_le (show _ < 1000 by omega) (by decide)
          · rw [upd_same, List.map_append]; rfl
          · exact same_mut (sm2.trans sm3) hD
          · rw [List.take_add_one, hx]
            refine paired_snoc (Paired.mapP hpr fun a b hab => ⟨?_, hab.2⟩) ⟨?_, nD2.symm⟩
            · rw [upd_ne hab.2]; exact sm3 _ _ hab.1
            · rw [upd_ne nD2.symm, h3]; unfold lettersOf; rw [List.map_map]; rfl
      · rintro H2 ⟨qs, hq, sm2, hpr⟩
        rw [List.length_map, List.take_length] at hpr
        refine q D qs ys H2 hp ((sm.trans sp).free hD) ((sm.trans sp).trans sm2) hq (Paired.mapP hpr fun a b h => h.1)

/-! ### firsts -/
def fateWords : List Str := ["lost", "made", "twice"]
def headW (y : Str) : Option Str := (lettersOf y).head?
def firstsM (e d a o : Bool) : List Str := fateWords.filter fun k => (wordsK (lfS e d a o)).any fun y => decide (headW y = some k)
theorem letters_lay : ∀ l : List Nat, PyData.canLayAll0 (l.map fun c => PyData.str (letterW c)) = true
  | [] => rfl
  | c :: l => by
    show (PyData.canLay0 (.str (letterW c)) && PyData.canLayAll0 _) = true
    rw [letters_lay l, Bool.and_true]
    unfold letterW
    split
    · decide +kernel
    · split <;> decide +kernel
theorem strs_depth : ∀ l : List Str, PyData.depthAll (l.map PyData.str) = 0
  | [] => rfl
  | c :: l => by
    show max (PyData.depth (.str c)) (PyData.depthAll (l.map PyData.str)) = 0
    rw [strs_depth l]; rfl
theorem letters_shaped (y : Str) : SeqAt.shaped (.list ((lettersOf y).map PyData.str)) = true := by
  unfold SeqAt.shaped
  rw [Bool.and_eq_true]
  constructor
  · have := letters_lay y.cps.toList
    unfold lettersOf
    rw [List.map_map]
    exact this
  · refine decide_eq_true ?_
    show PyData.depthAll _ + 1 ≤ 64
    rw [strs_depth]; omega
theorem tpa_strs (K : PySem.W.Frag) (H : Hp) : ∀ l : List Str, TpA K H (l.map V.str) (l.map PyData.str)
  | [] => .nil
  | x :: l => .cons (.str x) (tpa_strs K H l)
theorem inV_str (k : Str) : ∀ l : List Str, inV (.str k) (l.map V.str) = decide (k ∈ l)
  | [] => rfl
  | x :: l => by
    show (eqV (.str x) (.str k) || inV (.str k) (l.map V.str)) = _
    rw [inV_str k l]
    show ((x == k) || _) = _
    by_cases h : x = k
    · subst h; simp
    · have h' : ¬ k = x := fun e => h e.symm
      have : (x == k) = false := by simpa using h
      rw [this]; simp [h']
theorem flat_strs : ∀ l : List Str, (l.map V.str).all flatV = true
  | [] => rfl
  | x :: l => flat_strs l
theorem heads_filter (ys : List Str) (l : List Str) (h : ys.Perm l) : fateWords.filter (fun k => decide (k ∈ ys.filterMap headW)) = fateWords.filter (fun k => l.any fun y => decide (headW y = some k)) := by
  refine List.filter_congr fun k _ => ?_
  rw [Bool.eq_iff_iff, decide_eq_true_iff, List.any_eq_true, List.mem_filterMap]
  constructor
  · rintro ⟨y, h1, h2⟩; exact ⟨y, h.mem_iff.mp h1, decide_eq_true h2⟩
  · rintro ⟨y, h1, h2⟩; exact ⟨y, h.mem_iff.mpr h1, of_decide_eq_true h2⟩
theorem take_filterMap {α β : Type} (g : α → Option β) (l : List α) (i : Nat) (x : α) (h : l[i]? = some x) : (l.take (i + 1)).filterMap g = (l.take i).filterMap g ++ (g x).toList := by
  rw [List.take_add_one, h, List.filterMap_append]
  cases e : g x <;> simp [e]
abbrev s_firsts : Stmt := topS 31
theorem sc_firsts : FnScope ["link", "contents", "told", "fate", "kind"] ["link", "contents"] (defScope s_firsts) := ⟨rfl, rfl, rfl, by decide +kernel, rfl, by decide +kernel, by decide +kernel⟩
def R_firsts (ds : List PyData) (es : List PyData) : Prop := ∃ (L : Lk) (c : Ct), L.Ok ∧ c.Ok L ∧ ds = [dL L, dC c] ∧ es = (firstsM c.even c.done (c.enA L) (c.enO L)).map .str
theorem ok_firsts (F : Fun K "firsts" "firsts" s_firsts f fd) (B : Bt mg) {a_WRONG : Addr} (m_WRONG : mg "WRONG" = some (.ref a_WRONG)) (hWrong : ∀ H, SqT K H a_WRONG (fateWords.map V.str))
    (g_check_fated : Fn P w K mg base 7 "check_fated" ["link", "contents"] (spR K R_check_contents)) (g_fates_in : Fn P w K mg base 5 "fates_in" ["link", "contents"] (spFates K)) : FnOk P w K mg base CX0 8 f fd ["link", "contents"] (spL K R_firsts) := by
  refine F.ok sc_firsts (fun vs H Q E h => ?_) (fun cdv A outer s H vs Q E hr h => ?_)
  · obtain ⟨ds, es, t, ⟨L, c, _, _, e, _⟩, _⟩ := h
    rw [t.length, e]; rfl
  · obtain ⟨ds, es, t, ⟨L, c, hL, hc, rfl, rfl⟩, q⟩ := h
    refine ⟨_, (pss_cons (ps_expr (pe_fn g_check_fated (hr.mono (by decide)) (by rfl) (pa_cons (pv 0) (pa_cons (pv 1) pa_nil))))
        (pss_cons (ps_set (i := 2) sc_firsts.nd rfl (.inr rfl) (pe_lc (own := [("fate", 3)]) (g := gName 3) rfl sc_firsts.nd (pi_list (pe_fn g_fates_in (hr.mono (by decide)) (by rfl) (pa_cons (pv 0) (pa_cons (pv 1) pa_nil)))) (blkOk_by (N := ["link", "contents", "told", "fate", "kind"]) (sc := defScope s_firsts) (by decide +kernel)) (fun _ _ _ _ _ => (pg_name (i := 3) sc_firsts.nd rfl (.inl rfl))) (fun _ _ _ _ _ => (pts_one (pt_cmpR (show OpR _ (compareOp .NotEq) (rNeD K) from op_neD hr.units) (pv 3) (pe_lst pa_nil) (nomark _)))) (fun _ _ _ _ _ => (pe_ix (show IxR _ (rIxL K) from ix_list) (pv 3) pe_int (fun _ _ => rfl)))))
        (pss_one (ps_ret (pe_lc (own := [("kind", 4)]) (g := gName 4) rfl sc_firsts.nd (pi_tup (pe_glob (v := .ref a_WRONG) (by rfl) m_WRONG rfl)) (blkOk_by (N := ["link", "contents", "told", "fate", "kind"]) (sc := defScope s_firsts) (by decide +kernel)) (fun _ _ _ _ _ => (pg_name (i := 4) sc_firsts.nd rfl (.inl rfl))) (fun _ _ _ _ _ => (pts_one (pt_cmpR (show OpR _ (compareOp .In) (rIn K false) from op_in_seq) (pv 4) (pv 2) (by rfl)))) (fun _ _ _ _ _ => (pv 4))))))), ?_⟩
    have E0 := env0D (N := ["link", "contents", "told", "fate", "kind"]) t
    obtain ⟨v0, v1, rfl⟩ : ∃ v0 v1, vs = [v0, v1] := by
      cases t with
      | cons h1 t => cases t with
        | cons h2 t => cases t; exact ⟨_, _, rfl⟩
    -- check_fated(link, contents)
    refine (ed_call (K := K) (d := .none) (ds := [dL L, dC c]) (ea_cons (ed_var rfl) (ea_cons (ed_var rfl) ea_nil)) ⟨L, c, hL, hc, rfl, rfl⟩) _ H E0 _ fun _ H1 s1 _ => ?_
    -- fates_in(link, contents)
    refine ⟨v0, rfl, v1, rfl, L, c, hc, t.gr s1.gr, fun p qs ys H2 hperm hp s2 hl hpr => ?_⟩
    refine ⟨p, rfl, ⟨_, SqL.of hl⟩, fun D hD => ?_⟩
    have nDp : D ≠ p := fun e => by rw [e, hl] at hD; cases hD
    have hql : qs.length = ys.length := Paired.length hpr
    have hyl : ys.length < 60 := by rw [hperm.length_eq]; exact (words_ok _ _ _ _).2.1
    refine lc_list (K := K) (a := p) (xs := qs.map V.ref) (fun i H3 => H3 D = some (.lst (((ys.take i).filterMap headW).map V.str)) ∧ Same H2 H3) ⟨upd_same, same_new hD⟩ (fun i H3 _ h => SqL.of (h.2 _ _ hl)) ?_ ?_
    · rintro i y H3 hi ⟨h3, sm3⟩
      obtain ⟨qa, hqa, rfl⟩ : ∃ x, qs[i]? = some x ∧ y = V.ref x := by
        rw [List.getElem?_map] at hi
        obtain ⟨x, h1, h2⟩ := Option.map_eq_some_iff.mp hi
        exact ⟨x, h1, h2.symm⟩
      obtain ⟨x, hx, hq⟩ := paired_get hpr hqa
      have hq3 := sm3 _ _ hq
      refine ⟨rfl, _, rfl, Nat.zero_le _, fun r hr => ?_⟩
      have nrD : D ≠ r := ne_of_none h3 hr
      have nrq : qa ≠ r := ne_of_none hq3 hr
      have hqr : upd H3 r (.lst []) qa = some (.lst ((lettersOf x).map V.str)) := by rw [upd_ne nrq]; exact hq3
      have hDr : upd H3 r (.lst []) D = some (.lst (((ys.take i).filterMap headW).map V.str)) := by rw [upd_ne nrD]; exact h3
      refine ⟨.list ((lettersOf x).map .str), .list [], .lst (SqL.of hqr) (tpa_strs K _ _).dp, .lst (SqL.of upd_same) .nil, letters_shaped x, by decide, _, rfl, ?_⟩
      have hlen : ((ys.take i).filterMap headW).length < 1000 := by
        have h1 := List.length_filterMap_le headW (ys.take i)
        have h2 : (ys.take i).length ≤ ys.length := by rw [List.length_take]; omega
        omega
      cases hls : lettersOf x with
      | nil =>
        refine iteF ⟨?_, sm3.trans (same_new hr)⟩
        rw [hDr, take_filterMap headW ys i x hx]
        unfold headW
        rw [hls]; simp
      | cons a r' =>
        rw [hls] at hqr
        refine iteT ⟨_, rfl, qa, _, 0, V.str a, rfl, rfl, SqL.of hqr, atI_nat (j := 0) rfl, _, hDr, ?_, ?_, ?_⟩
        · rw [List.length_map]; exact Nat.lt_of_lt_of_le hlen (by decide)
        · rw [upd_same, take_filterMap headW ys i x hx, List.map_append]
          unfold headW
          rw [hls]; rfl
        · exact same_mut (sm3.trans (same_new hr)) hD
    · rintro H3 ⟨h3, sm3⟩
      rw [List.length_map, hql, List.take_length] at h3
      -- [kind for kind in WRONG if kind in told]
      refine ⟨a_WRONG, rfl, ⟨_, hWrong _⟩, fun D2 hD2 => ?_⟩
      have nD : D ≠ D2 := ne_of_none h3 hD2
      refine lc_tup (K := K) (a := a_WRONG) (xs := fateWords.map V.str) (fun i H4 => H4 D2 = some (.lst (((fateWords.take i).filter (fun k => decide (k ∈ ys.filterMap headW))).map V.str)) ∧ Same H3 H4) ⟨upd_same, same_new hD2⟩ (fun i H4 _ _ => hWrong _) ?_ ?_
      · rintro i y H4 hi ⟨h4, sm4⟩
        obtain ⟨k, hk, rfl⟩ : ∃ x, fateWords[i]? = some x ∧ y = V.str x := by
          rw [List.getElem?_map] at hi
          obtain ⟨x, h1, h2⟩ := Option.map_eq_some_iff.mp hi
          exact ⟨x, h1, h2.symm⟩
        refine ⟨rfl, _, rfl, _, rfl, D, _, rfl, .inl (SqL.of (sm4 _ _ h3)), rfl, flat_strs _, _, rfl, ?_⟩
        rw [if_neg Bool.false_ne_true, inV_str]
        have tk : fateWords.take (i + 1) = fateWords.take i ++ [k] := by rw [List.take_add_one, hk]; rfl
        by_cases hm : k ∈ ys.filterMap headW
        · rw [decide_eq_true hm]
          refine iteT ⟨_, rfl, _, h4, ?_, ?_, ?_⟩
          · rw [List.length_map]
            have h1 := List.length_filter_le (fun k => decide (k ∈ ys.filterMap headW)) (fateWords.take i)
            have h2 : (fateWords.take i).length ≤ 3 := by rw [List.length_take]; exact Nat.min_le_right _ _
            exact Nat.lt_of_lt_of_le (show _ < 1000 by omega) (by decide)
          · rw [upd_same, tk, List.filter_append, List.map_append]
            simp [List.filter, hm]
          · exact same_mut sm4 hD2
        · rw [decide_eq_false hm]
          refine iteF ⟨?_, sm4⟩
          rw [h4, tk, List.filter_append, List.map_append]
          simp [List.filter, hm]
      · rintro H4 ⟨h4, sm4⟩
        have hf : fateWords.take (fateWords.map V.str).length = fateWords := rfl
        rw [hf, heads_filter ys _ hperm] at h4
        have ss := (s1.trans s2).trans (sm3.trans sm4)
        exact q D2 _ H4 (((s1.trans s2).trans sm3).free hD2) ss h4 (tpa_strs K _ _)
end
end Hw

set_option Elab.async false
set_option linter.all false
set_option maxRecDepth 100000
set_option maxHeartbeats 4000000
/-! H6: draws. -/
namespace Hw
open PySem PySem.Spec PyProof.Rows L2
section
variable {P : Program} {w : World} {K : PySem.W.Frag} {mg : Str → Option Value} {base : Heap} {f : Addr} {fd : FuncData}
/-! ### hash -/
abbrev s__law_hash : Stmt := topS 36
theorem sc__law_hash : FnScope ["_law_seed", "_law_index", "_law_mixed"] ["_law_seed", "_law_index"] (defScope s__law_hash) := ⟨rfl, rfl, rfl, by decide +kernel, rfl, by decide +kernel, by decide +kernel⟩
def mHash (s i : Int) : Int :=
  let m := (s * 1140671 + 27644437 * i * i + 131 * i + 19) % 2147483629
  let m := (m * m + 62089 * i + 32416187) % 2147483587
  (m * 48271) % 2147483647
theorem mHash_lo (s i : Int) : 0 ≤ mHash s i := Int.emod_nonneg _ (by decide)
theorem mHash_hi (s i : Int) : mHash s i < 2147483647 := Int.emod_lt_of_pos _ (by decide)
def R_hash (ds : List PyData) (d : PyData) : Prop := ∃ s i : Int, 0 ≤ s ∧ s < 2147483647 ∧ 0 ≤ i ∧ i ≤ 200000000 ∧ ds = [.int s, .int i] ∧ d = .int (mHash s i)
theorem ok_hash (F : Fun K "_law_hash" "_law_hash" s__law_hash f fd) (B : Bt mg) : FnOk P w K mg base CX0 1 f fd ["_law_seed", "_law_index"] (spR K R_hash) := by
  refine ok_pure (N := ["_law_seed", "_law_index", "_law_mixed"]) F sc__law_hash (fun ds d ⟨s, i, _, _, _, _, h2, _⟩ => by rw [h2]; rfl) fun cdv A outer st H E hr ds d ⟨s, i, h1, h2, h3, h4, e1, e2⟩ => ?_
  subst e1 e2
  refine ⟨_, (pss_cons (ps_set (i := 2) sc__law_hash.nd rfl (.inl rfl) (pe_op op_mod (pe_callTy call_int1 (by rfl) B.int (by decide +kernel) (pa_cons (pe_op op_add (pe_op op_add (pe_op op_add (pe_op op_mul (pv 0) pe_int) (pe_op op_mul (pe_op op_mul pe_int (pv 1)) (pv 1))) (pe_op op_mul pe_int (pv 1))) pe_int) pa_nil)) pe_int))
        (pss_cons (ps_set (i := 2) sc__law_hash.nd rfl (.inl rfl) (pe_op op_mod (pe_callTy call_int1 (by rfl) B.int (by decide +kernel) (pa_cons (pe_op op_add (pe_op op_add (pe_op op_mul (pv 2) (pv 2)) (pe_op op_mul pe_int (pv 1))) pe_int) pa_nil)) pe_int))
        (pss_one (ps_ret (pe_op op_mod (pe_callTy call_int1 (by rfl) B.int (by decide +kernel) (pa_cons (pe_op op_mul (pv 2) pe_int) pa_nil)) pe_int))))), ?_⟩
  have m1 : 0 ≤ (s * 1140671 + 27644437 * i * i + 131 * i + 19) % 2147483629 := Int.emod_nonneg _ (by decide)
  have m2 : (s * 1140671 + 27644437 * i * i + 131 * i + 19) % 2147483629 < 2147483629 := Int.emod_lt_of_pos _ (by decide)
  refine rd_seq (rf_asg (d := .int ((s * 1140671 + 27644437 * i * i + 131 * i + 19) % 2147483629)) ?_) ?_
  · exact ed_CI (ed_intI (ed_II (ed_II (ed_II (ed_CI (ed_var rfl) ed_int (.inr (by decide))) (ed_CI (ed_CI ed_int (ed_var rfl) (.inl (by decide))) (ed_var rfl) (.inr ⟨by omega, by omega⟩))) (ed_CI ed_int (ed_var rfl) (.inl (by decide)))) ed_int)) ed_int (by decide)
  generalize hm : (s * 1140671 + 27644437 * i * i + 131 * i + 19) % 2147483629 = m at m1 m2
  have m3 : 0 ≤ (m * m + 62089 * i + 32416187) % 2147483587 := Int.emod_nonneg _ (by decide)
  have m4 : (m * m + 62089 * i + 32416187) % 2147483587 < 2147483587 := Int.emod_lt_of_pos _ (by decide)
  refine rd_seq (rf_asg (d := .int ((m * m + 62089 * i + 32416187) % 2147483587)) ?_) ?_
  · exact ed_CI (ed_intI (ed_II (ed_II (ed_CI (ed_var rfl) (ed_var rfl) (.inl ⟨by omega, by omega⟩)) (ed_CI ed_int (ed_var rfl) (.inl (by decide)))) ed_int)) ed_int (by decide)
  refine RunD.is (rd_ret (ed_CI (ed_intI (ed_CI (ed_var rfl) ed_int (.inr (by decide)))) ed_int (by decide))) ?_
  unfold mHash
  rw [hm]

/-! ### draws -/
/-- a generator: three ints at g, the last one at most B -/
structure Gn (H : Hp) (g : Addr) (B : Int) : Prop where
  ex : ∃ a s c : Int, H g = some (.lst [.int a, .int s, .int c]) ∧ 0 ≤ s ∧ s < 2147483647 ∧ 0 ≤ c ∧ c ≤ B
theorem Gn.same {H H' : Hp} {g : Addr} {B : Int} (h : Gn H g B) (s : Same H H') : Gn H' g B := by
  obtain ⟨a, b, c, e, r⟩ := h.ex
  exact ⟨a, b, c, s _ _ e, r⟩
theorem Gn.le {H : Hp} {g : Addr} {B B' : Int} (h : Gn H g B) (l : B ≤ B') : Gn H g B' := by
  obtain ⟨a, b, c, e, r1, r2, r3, r4⟩ := h.ex
  exact ⟨a, b, c, e, r1, r2, r3, by omega⟩
theorem Gn.ne {H : Hp} {g p : Addr} {B : Int} (h : Gn H g B) (e : H p = none) : g ≠ p := by
  obtain ⟨a, b, c, e2, _⟩ := h.ex
  exact ne_of_none e2 e
theorem Gn.free {H H' : Hp} {g l : Addr} {B : Int} (h : Gn H' g B) (s : But g H H') (e : H' l = none) : H l = none := by
  obtain ⟨a, b, c, e2, _⟩ := h.ex
  exact s.free e2 e
theorem Gn.gr {H H' : Hp} {g : Addr} {B : Int} (h : Gn H g B) (s : But g H H') : Gr H H' := by
  obtain ⟨a, b, c, e2, _⟩ := h.ex
  exact s.gr e2
def spRandom : Sp := fun vs H Q _ => ∃ (g : Addr) (b B : Int), vs = [.ref g, .int b] ∧ 1 ≤ b ∧ b < 2 ^ 80 ∧ Gn H g B ∧ B ≤ 100000000 ∧ ∀ (r : Int) (H' : Hp), 0 ≤ r → r < b → But g H H' → Gn H' g (B + 4) → Q (.int r) H'
abbrev s__law_random : Stmt := topS 37
theorem sc__law_random : FnScope ["_law_generator_here", "_law_bound", "_law_drawn", "_law_turn"] ["_law_generator_here", "_law_bound"] (defScope s__law_random) := ⟨rfl, rfl, rfl, by decide +kernel, rfl, by decide +kernel, by decide +kernel⟩
theorem bits_80 {b : Int} (h1 : 1 ≤ b) (h2 : b < 2 ^ 80) : Builtin.Int.intBits b ≤ 80 := PyProof.Rows.intBits_le (show b.natAbs < 2 ^ 80 by omega)
theorem ok_random (F : Fun K "_law_random" "_law_random" s__law_random f fd) (B : Bt mg) (g__law_hash : Fn P w K mg base 1 "_law_hash" ["_law_seed", "_law_index"] (spR K R_hash)) : FnOk P w K mg base CX0 2 f fd ["_law_generator_here", "_law_bound"] spRandom := by
  refine F.ok sc__law_random (fun vs H Q E h => ?_) (fun cdv A outer s H vs Q E hr h => ?_)
  · obtain ⟨g, b, B', rfl, _⟩ := h
    rfl
  · obtain ⟨g, b, Bd, rfl, hb1, hb2, hg, hB, q⟩ := h
    obtain ⟨a, sd, c, hl, hs1, hs2, hc1, hc2⟩ := hg.ex
    refine ⟨_, (pss_cons (ps_if (pt_cmpR op_gt (pe_ix ix_list (pv 0) pe_int (fun _ _ => rfl)) pe_int (nomark _))
         (pss_cons (ps_set (i := 2) sc__law_random.nd rfl (.inl rfl) (pe_op op_mod (pe_callTy call_int1 (by rfl) B.int (by decide +kernel) (pa_cons (pe_ix ix_list (pv 0) pe_int (fun _ _ => rfl)) pa_nil)) (pv 1)))
          (pss_cons (ps_asg (pe_op op_fdivW (pe_ix ix_list (pv 0) pe_int (fun _ _ => rfl)) (pv 1)) (pg_sub (pv 0) pe_int set_list))
          (pss_one (ps_ret (pv 2)))))
         pss_nil)
        (pss_cons (ps_set (i := 2) sc__law_random.nd rfl (.inl rfl) pe_int)
        (pss_cons (ps_for PassesOwn.never rfl (pi_range1 (by rfl) B.range (pa_cons (pe_op op_add pe_int (pe_op op_fdiv (pe_bits (pv 1)) pe_int)) pa_nil)) (pg_name (i := 3) sc__law_random.nd rfl (.inl rfl))
         (pss_cons (ps_asg (pe_op op_add (pe_ix ix_list (pv 0) pe_int (fun _ _ => rfl)) pe_int) (pg_sub (pv 0) pe_int set_list))
          (pss_one (ps_set (i := 2) sc__law_random.nd rfl (.inl rfl) (pe_op op_add (pe_op op_mul (pv 2) pe_int) (pe_fn g__law_hash (hr.mono (by decide)) (by rfl) (pa_cons (pe_ix ix_list (pv 0) pe_int (fun _ _ => rfl)) (pa_cons (pe_ix ix_list (pv 0) pe_int (fun _ _ => rfl)) pa_nil))))))))
        (pss_one (ps_ret (pe_op op_mod (pe_callTy call_int1 (by rfl) B.int (by decide +kernel) (pa_cons (pv 2) pa_nil)) (pv 1))))))), ?_⟩
    have hmod : ∀ x : Int, 0 ≤ x % b ∧ x % b < b := fun x => ⟨Int.emod_nonneg _ (by omega), Int.emod_lt_of_pos _ (by omega)⟩
    refine ⟨_, rfl, g, _, 0, _, rfl, rfl, SqL.of hl, atI_nat (j := 0) rfl, _, _, rfl, rfl, _, rfl, ite2 (fun _ => ?_) (fun _ => ?_)⟩
    · -- drawn from the digits
      refine ⟨_, rfl, g, _, 0, _, rfl, rfl, SqL.of hl, atI_nat (j := 0) rfl, .inl ⟨_, rfl, _, rfl, _, _, rfl, rfl, by omega, ?_⟩⟩
      refine ⟨_, rfl, g, _, 0, _, rfl, rfl, SqL.of hl, atI_nat (j := 0) rfl, _, rfl, _, _, rfl, rfl, ⟨by omega, ?_⟩, _, rfl, g, _, 0, 0, rfl, rfl, hl, rfl, _, rfl, ?_⟩
      · exact (wide_div (i := a) (j := b) (b := 80) (by omega) (by omega) (by decide) (by decide)).2
      · refine q _ _ (hmod a).1 (hmod a).2 (fun x o hx e => by rw [upd_ne hx]; exact e) ⟨_, sd, c, upd_same, hs1, hs2, hc1, by omega⟩
    · -- drawn from the hash
      refine ⟨_, rfl, _, rfl, _, _, rfl, rfl, (by decide : (0:Int) < 30 ∧ (30:Int) < 1073741824), _, _, rfl, rfl, ?_⟩
      have hbits := bits_80 hb1 hb2
      have hlen : 1 + ((Builtin.Int.intBits b : Nat) : Int) / 30 ≤ 3 := by omega
      have hlen0 : 0 ≤ 1 + ((Builtin.Int.intBits b : Nat) : Int) / 30 := by omega
      obtain ⟨n, hn⟩ : ∃ n, n = 1 + ((Builtin.Int.intBits b : Nat) : Int) / 30 := ⟨_, rfl⟩
      rw [← hn] at hlen hlen0
      refine ⟨n, by rw [hn], by omega, by omega, ?_⟩
      refine for_range (lo := 0) (n := n.toNat) (fun i σ H1 => ∃ (x : Int) (o : Option V), σ = [some (.ref g), some (.int b), some (.int x), o] ∧ But g H H1 ∧ H1 g = some (.lst [.int a, .int sd, .int (c + i)])) ⟨0, none, rfl, But.refl g H, by simpa using hl⟩ ?_ ?_
      · rintro i σ H1 hi ⟨x, o, rfl, bt, h1⟩
        refine ⟨_, rfl, g, _, 2, _, rfl, rfl, SqL.of h1, atI_nat (j := 2) rfl, _, _, rfl, rfl, _, rfl, g, _, 2, 2, rfl, rfl, h1, rfl, ?_⟩
        refine ⟨_, rfl, _, _, rfl, rfl, .inr (by decide), _, rfl, g, _, 1, _, rfl, rfl, SqL.of upd_same, atI_nat (j := 1) rfl, _, rfl, g, _, 2, _, rfl, rfl, SqL.of upd_same, atI_nat (j := 2) rfl, ?_⟩
        refine ⟨[.int sd, .int (c + i + 1)], _, .cons (.int _) (.cons (.int _) .nil), ⟨sd, c + i + 1, hs1, hs2, by omega, by omega, rfl, rfl⟩, fun v H2 s2 t2 => ?_⟩
        cases t2.int_inv
        refine ⟨_, _, rfl, rfl, _, _, rfl, ?_, ?_⟩
        · exact (bt.trans (fun y o hy e => by rw [upd_ne hy]; exact e)).trans s2.but
        · rw [s2 _ _ upd_same]
          show some (HO.lst [.int a, .int sd, .int (c + i + 1)]) = _
          rw [show ((c + ((i + 1 : Nat) : Int)) : Int) = c + i + 1 by omega]
      · rintro σ H1 ⟨x, o, rfl, bt, h1⟩
        refine ⟨_, rfl, .inl ⟨_, rfl, _, rfl, _, _, rfl, rfl, by omega, ?_⟩⟩
        exact q _ _ (hmod x).1 (hmod x).2 bt ⟨a, sd, _, h1, hs1, hs2, by omega, by omega⟩

/-! ### the script's cells, the generators -/
theorem cut_map (ns : List Int) (lo hi : Option Int) : ∃ ms : List Int, cutV (ns.map V.int) lo hi = ms.map V.int := by
  unfold cutV
  exact ⟨_, by rw [← List.map_drop, ← List.map_take]⟩
abbrev s__law_cell : Stmt := topS 38
theorem sc__law_cell : FnScope ["_law_script", "_law_index"] ["_law_script", "_law_index"] (defScope s__law_cell) := ⟨rfl, rfl, rfl, by decide +kernel, rfl, by decide +kernel, by decide +kernel⟩
def spCellW (K : PySem.W.Frag) : Sp := fun vs H Q _ => ∃ (a : Addr) (ns : List Int) (i : Int), vs = [.ref a, .int i] ∧ SqL K H a (ns.map V.int) ∧ 0 ≤ i ∧ ∀ (z : Int) (H' : Hp), Same H H' → Q (.int z) H'
theorem ok_cell (F : Fun K "_law_cell" "_law_cell" s__law_cell f fd) (B : Bt mg) : FnOk P w K mg base CX0 1 f fd ["_law_script", "_law_index"] (spCellW K) := by
  refine F.ok sc__law_cell (fun vs H Q E h => ?_) (fun cdv A outer s H vs Q E hr h => ?_)
  · obtain ⟨a, ns, i, rfl, _⟩ := h
    rfl
  · obtain ⟨a, ns, i, rfl, hS, hi, q⟩ := h
    refine ⟨_, (pss_cons (ps_if (pt_cmpR op_lt (pv 1) (pe_callB call_len_seq (by rfl) B.len PySem.boot_len (pa_cons (pv 0) pa_nil)) (nomark _))
         (pss_one (ps_ret (pe_ix ix_list (pv 0) (pv 1) (fun _ _ => rfl))))
         pss_nil)
        (pss_one (ps_ret (pe_op op_mod (pe_callB (cr_sum rfl) (by rfl) B.sum (by decide +kernel) (pa_cons (pe_slice sl_list (pv 0) po_none (po_some pe_int)) pa_nil)) pe_int)))), ?_⟩
    refine ⟨_, rfl, _, rfl, a, _, rfl, .inl hS, _, _, rfl, rfl, _, rfl, ite2 (fun e => ?_) (fun _ => ?_)⟩
    · have hlt : i < ((ns.map V.int).length : Int) := of_decide_eq_true e
      rw [List.length_map] at hlt
      have hj : (ns.map V.int)[i.toNat]? = some (.int ns[i.toNat]) := by
        rw [List.getElem?_map, List.getElem?_eq_getElem (show i.toNat < ns.length by omega)]; rfl
      have := atI_nat (j := i.toNat) hj
      rw [Int.toNat_of_nonneg hi] at this
      exact ⟨_, rfl, _, rfl, a, _, i, _, rfl, rfl, hS, this, q _ _ (Same.refl H)⟩
    · obtain ⟨ms, hm⟩ := cut_map ns none (some 1)
      refine ⟨_, rfl, _, rfl, a, _, rfl, hS, fun p hp => ?_⟩
      refine ⟨p, ms, rfl, SqL.of (by rw [upd_same, hm]), _, _, rfl, rfl, (by decide : (0 : Int) < 1000003), q _ _ (same_new hp)⟩

abbrev s__law_generator : Stmt := topS 39
theorem sc__law_generator : FnScope ["_law_script", "_law_index", "_law_seed"] ["_law_script", "_law_index"] (defScope s__law_generator) := ⟨rfl, rfl, rfl, by decide +kernel, rfl, by decide +kernel, by decide +kernel⟩
def spGen (K : PySem.W.Frag) : Sp := fun vs H Q _ => ∃ (a : Addr) (ns : List Int) (i : Int), vs = [.ref a, .int i] ∧ SqL K H a (ns.map V.int) ∧ 0 ≤ i ∧ i ≤ 100 ∧ ∀ (g : Addr) (H' : Hp), H g = none → Same H H' → Gn H' g (1000 * i) → Q (.ref g) H'
theorem ok_gen (F : Fun K "_law_generator" "_law_generator" s__law_generator f fd) (B : Bt mg) (g__law_cell : Fn P w K mg base 1 "_law_cell" ["_law_script", "_law_index"] (spCellW K)) : FnOk P w K mg base CX0 2 f fd ["_law_script", "_law_index"] (spGen K) := by
  refine F.ok sc__law_generator (fun vs H Q E h => ?_) (fun cdv A outer s H vs Q E hr h => ?_)
  · obtain ⟨a, ns, i, rfl, _⟩ := h
    rfl
  · obtain ⟨a, ns, i, rfl, hS, hi, hi2, q⟩ := h
    refine ⟨_, (pss_cons (ps_set (i := 2) sc__law_generator.nd rfl (.inl rfl) (pe_fn g__law_cell (hr.mono (by decide)) (by rfl) (pa_cons (pv 0) (pa_cons (pv 1) pa_nil))))
        (pss_one (ps_ret (pe_lst (pa_cons (pe_op op_mod (pe_callTy call_int1 (by rfl) B.int (by decide +kernel) (pa_cons (pe_callB (call_max2 rfl) (by rfl) B.max (by decide +kernel) (pa_cons (pe_op op_sub (pv 2) (pe_op op_pow pe_int pe_int)) (pa_cons pe_int pa_nil))) pa_nil)) (pe_op op_powW (pe_op op_pow pe_int pe_int) pe_int)) (pa_cons (pe_op op_mod (pe_callTy call_int1 (by rfl) B.int (by decide +kernel) (pa_cons (pv 2) pa_nil)) pe_int) (pa_cons (pe_op op_mul pe_int (pv 1)) pa_nil))))))), ?_⟩
    refine ⟨_, rfl, _, rfl, a, ns, i, rfl, hS, hi, fun z H1 s1 => ?_⟩
    refine ⟨_, rfl, _, _, rfl, rfl, ⟨by decide, by decide, by decide⟩, _, _, rfl, rfl, _, _, rfl, .inl ⟨_, rfl, ?_⟩⟩
    refine ⟨_, _, rfl, rfl, ⟨by decide, by decide, by decide⟩, _, _, rfl, rfl, ⟨by decide, by decide +kernel⟩, _, _, rfl, rfl, (by decide +kernel : (0 : Int) < (10 ^ Int.toNat 60) ^ Int.toNat 10), ?_⟩
    refine ⟨_, rfl, .inl ⟨_, rfl, _, _, rfl, rfl, (by decide : (0 : Int) < 2147483647), ?_⟩⟩
    refine ⟨_, rfl, _, _, rfl, rfl, .inl (by decide), by show 3 ≤ sizeLine; decide, fun p hp => ?_⟩
    exact q p _ (s1.free hp) (s1.trans (same_new hp)) ⟨_, _, _, upd_same, Int.emod_nonneg _ (by decide), Int.emod_lt_of_pos _ (by decide), by omega, by omega⟩

/-! ### sizes and counts -/
abbrev s__law_size : Stmt := topS 40
theorem sc__law_size : FnScope ["_law_generator_here", "_law_least", "_law_most"] ["_law_generator_here", "_law_least", "_law_most"] (defScope s__law_size) := ⟨rfl, rfl, rfl, by decide +kernel, rfl, by decide +kernel, by decide +kernel⟩
def spSize : Sp := fun vs H Q _ => ∃ (g : Addr) (lo hi B : Int), vs = [.ref g, .int lo, .int hi] ∧ lo ≤ hi ∧ hi - lo + 1 < 2 ^ 80 ∧ Gn H g B ∧ B ≤ 100000000 ∧ ∀ (r : Int) (H' : Hp), lo ≤ r → r ≤ hi → But g H H' → Gn H' g (B + 4) → Q (.int r) H'
theorem ok_size (F : Fun K "_law_size" "_law_size" s__law_size f fd) (g__law_random : Fn P w K mg base 2 "_law_random" ["_law_generator_here", "_law_bound"] spRandom) : FnOk P w K mg base CX0 3 f fd ["_law_generator_here", "_law_least", "_law_most"] spSize := by
  refine F.ok sc__law_size (fun vs H Q E h => ?_) (fun cdv A outer s H vs Q E hr h => ?_)
  · obtain ⟨g, lo, hi, B, rfl, _⟩ := h
    rfl
  · obtain ⟨g, lo, hi, B, rfl, h1, h2, hg, hB, q⟩ := h
    refine ⟨_, (pss_one (ps_ret (pe_op op_add (pv 1) (pe_fn g__law_random (hr.mono (by decide)) (by rfl) (pa_cons (pv 0) (pa_cons (pe_op op_add (pe_op op_sub (pv 2) (pv 1)) pe_int) pa_nil)))))), ?_⟩
    refine ⟨_, rfl, _, rfl, _, rfl, _, rfl, _, _, rfl, rfl, _, _, rfl, rfl, g, _, B, rfl, by omega, h2, hg, hB, fun r H' r0 r1 bt hg' => ?_⟩
    exact ⟨_, _, rfl, rfl, q _ _ (by omega) (by omega) bt hg'⟩
abbrev s__law_count : Stmt := topS 48
theorem sc__law_count : FnScope ["_law_generator_here", "_law_most", "_law_way"] ["_law_generator_here", "_law_most"] (defScope s__law_count) := ⟨rfl, rfl, rfl, by decide +kernel, rfl, by decide +kernel, by decide +kernel⟩
def spCount : Sp := fun vs H Q _ => ∃ (g : Addr) (m B : Int), vs = [.ref g, .int m] ∧ 0 ≤ m ∧ m < 2 ^ 79 ∧ Gn H g B ∧ B + 4 ≤ 100000000 ∧ ∀ (r : Int) (H' : Hp), 0 ≤ r → r ≤ m → But g H H' → Gn H' g (B + 8) → Q (.int r) H'
theorem ok_count (F : Fun K "_law_count" "_law_count" s__law_count f fd) (g__law_random : Fn P w K mg base 2 "_law_random" ["_law_generator_here", "_law_bound"] spRandom) : FnOk P w K mg base CX0 3 f fd ["_law_generator_here", "_law_most"] spCount := by
  refine F.ok sc__law_count (fun vs H Q E h => ?_) (fun cdv A outer s H vs Q E hr h => ?_)
  · obtain ⟨g, m, B, rfl, _⟩ := h
    rfl
  · obtain ⟨g, m, B, rfl, h1, h2, hg, hB, q⟩ := h
    refine ⟨_, (pss_cons (ps_set (i := 2) sc__law_count.nd rfl (.inl rfl) (pe_fn g__law_random (hr.mono (by decide)) (by rfl) (pa_cons (pv 0) (pa_cons pe_int pa_nil))))
        (pss_one (ps_ret (pe_ix ix_list (pe_lst (pa_cons pe_int (pa_cons (pv 1) (pa_cons (pe_fn g__law_random (hr.mono (by decide)) (by rfl) (pa_cons (pv 0) (pa_cons (pe_op op_add (pv 1) pe_int) pa_nil))) pa_nil)))) (pv 2) (fun _ _ => rfl))))), ?_⟩
    refine ⟨_, rfl, g, 3, B, rfl, by decide, by decide, hg, by omega, fun w0 H1 w1 w2 bt1 hg1 => ?_⟩
    refine ⟨_, rfl, _, rfl, _, rfl, _, _, rfl, rfl, g, _, B + 4, rfl, by omega, by omega, hg1, by omega, fun r H2 r0 r1 bt2 hg2 => ?_⟩
    refine ⟨by show 3 ≤ sizeLine; decide, fun p hp => ?_⟩
    have hg3 := (hg2.same (same_new (o := .lst [.int 0, .int m, .int r]) hp)).le (show B + 4 + 4 ≤ B + 8 by omega)
    have bt := (bt1.trans bt2).trans (same_new (o := .lst [.int 0, .int m, .int r]) hp).but
    have hw : w0 = 0 ∨ w0 = 1 ∨ w0 = 2 := by omega
    rcases hw with rfl | rfl | rfl
    · exact ⟨_, rfl, p, _, 0, .int 0, rfl, rfl, SqL.of upd_same, atI_nat (j := 0) rfl, q _ _ (by omega) (by omega) bt hg3⟩
    · exact ⟨_, rfl, p, _, 1, .int m, rfl, rfl, SqL.of upd_same, atI_nat (j := 1) rfl, q _ _ (by omega) (by omega) bt hg3⟩
    · exact ⟨_, rfl, p, _, 2, .int r, rfl, rfl, SqL.of upd_same, atI_nat (j := 2) rfl, q _ _ (by omega) (by omega) bt hg3⟩
abbrev s__law_power : Stmt := topS 58
theorem sc__law_power : FnScope ["_law_many", "_law_found", "_law_turn"] ["_law_many"] (defScope s__law_power) := ⟨rfl, rfl, rfl, by decide +kernel, rfl, by decide +kernel, by decide +kernel⟩
def spPower : Sp := fun vs H Q _ => ∃ m : Nat, vs = [.int m] ∧ m ≤ 20 ∧ Q (.int (10 ^ m)) H
theorem ok_power (F : Fun K "_law_power" "_law_power" s__law_power f fd) (B : Bt mg) : FnOk P w K mg base CX0 1 f fd ["_law_many"] spPower := by
  refine F.ok sc__law_power (fun vs H Q E h => ?_) (fun cdv A outer s H vs Q E hr h => ?_)
  · obtain ⟨m, rfl, _⟩ := h
    rfl
  · obtain ⟨m, rfl, hm, q⟩ := h
    refine ⟨_, (pss_cons (ps_set (i := 1) sc__law_power.nd rfl (.inl rfl) pe_int)
        (pss_cons (ps_for PassesOwn.never rfl (pi_range1 (by rfl) B.range (pa_cons (pv 0) pa_nil)) (pg_name (i := 2) sc__law_power.nd rfl (.inl rfl))
         (pss_one (ps_set (i := 1) sc__law_power.nd rfl (.inl rfl) (pe_op op_mul (pv 1) pe_int))))
        (pss_one (ps_ret (pv 1))))), ?_⟩
    refine ⟨_, rfl, m, rfl, by omega, by omega, ?_⟩
    refine for_range (lo := 0) (n := ((m : Int)).toNat) (fun i σ H1 => ∃ o, σ = [some (.int m), some (.int (10 ^ i)), o] ∧ H1 = H) ⟨none, rfl, rfl⟩ ?_ ?_
    · rintro i σ H1 hi ⟨o, rfl, rfl⟩
      refine ⟨_, rfl, _, _, rfl, rfl, .inr (by decide), some (.int (0 + (i : Int))), ?_, rfl⟩
      rw [Int.pow_succ]; rfl
    · rintro σ H1 ⟨o, rfl, rfl⟩
      exact ⟨_, rfl, by simpa using q⟩
end
end Hw

set_option Elab.async false
set_option linter.all false
set_option maxRecDepth 100000
set_option maxHeartbeats 4000000
/-! H7: drawn links and contents. -/
namespace Hw
open PySem PySem.Spec PyProof.Rows L2
section
variable {P : Program} {w : World} {K : PySem.W.Frag} {mg : Str → Option Value} {base : Heap} {f : Addr} {fd : FuncData}
abbrev s__law_link : Stmt := topS 50
theorem sc__law_link : FnScope ["_law_generator_here", "_law_most", "_law_tight", "_law_places", "_law_room"] ["_law_generator_here", "_law_most", "_law_tight"] (defScope s__law_link) := ⟨rfl, rfl, rfl, by decide +kernel, rfl, by decide +kernel, by decide +kernel⟩
structure Lk.Sm (L : Lk) (m : Nat) : Prop where
  c : L.c ≤ m
  d : L.d ≤ m
  p : L.p ≤ 2 * m
  q : L.q ≤ 2 * m
def spLink (K : PySem.W.Frag) : Sp := fun vs H Q _ => ∃ (g : Addr) (m : Nat) (t : Bool) (B : Int), vs = [.ref g, .int m, .bl t] ∧ 1 ≤ m ∧ m ≤ 10 ^ 20 ∧ Gn H g B ∧ B ≤ 10000000 ∧
  ∀ (v : V) (L : Lk) (H' : Hp), L.Ok → L.Sm m → But g H H' → Gn H' g (B + 24) → Tp K H' v (dL L) → Q v H'
theorem tp_link {H : Hp} {p : Addr} (L : Lk) (h : H p = some (.tup [.int L.c, .int L.d, .int L.p, .int L.q])) : Tp K H (.ref p) (dL L) := .tup (SqT.of h) (.cons (.int _) (.cons (.int _) (.cons (.int _) (.cons (.int _) .nil))))
theorem ok_link (F : Fun K "_law_link" "_law_link" s__law_link f fd) (g__law_size : Fn P w K mg base 3 "_law_size" ["_law_generator_here", "_law_least", "_law_most"] spSize) (g__law_count : Fn P w K mg base 3 "_law_count" ["_law_generator_here", "_law_most"] spCount) : FnOk P w K mg base CX0 4 f fd ["_law_generator_here", "_law_most", "_law_tight"] (spLink K) := by
  refine F.ok sc__law_link (fun vs H Q E h => ?_) (fun cdv A outer s H vs Q E hr h => ?_)
  · obtain ⟨g, m, t, B, rfl, _⟩ := h
    rfl
  · obtain ⟨g, m, t, B, rfl, h1, h2, hg, hB, q⟩ := h
    have h20 : (10 : Nat) ^ 20 < 2 ^ 70 := by decide
    have hm : ((m : Nat) : Int) < 2 ^ 70 := by omega
    refine ⟨_, (pss_cons (ps_par (i := 3) (j := 4) rfl sc__law_link.nd rfl rfl (by decide) rfl rfl (pa_cons (pe_fn g__law_size (hr.mono (by decide)) (by rfl) (pa_cons (pv 0) (pa_cons pe_int (pa_cons (pv 1) pa_nil)))) (pa_cons (pe_fn g__law_size (hr.mono (by decide)) (by rfl) (pa_cons (pv 0) (pa_cons pe_int (pa_cons (pv 1) pa_nil)))) pa_nil)) (by rfl))
        (pss_cons (ps_if (pt_val (pv 2))
         (pss_one (ps_ret (pe_tup (pa_cons (pv 3) (pa_cons (pv 4) (pa_cons (pv 3) (pa_cons (pv 4) pa_nil)))))))
         pss_nil)
        (pss_one (ps_ret (pe_tup (pa_cons (pv 3) (pa_cons (pv 4) (pa_cons (pe_op op_add (pv 3) (pe_fn g__law_count (hr.mono (by decide)) (by rfl) (pa_cons (pv 0) (pa_cons (pv 1) pa_nil)))) (pa_cons (pe_op op_add (pv 4) (pe_fn g__law_count (hr.mono (by decide)) (by rfl) (pa_cons (pv 0) (pa_cons (pv 1) pa_nil)))) pa_nil))))))))), ?_⟩
    refine ⟨_, rfl, _, rfl, g, 1, m, B, rfl, by omega, by omega, hg, by omega, fun a H1 a1 a2 bt1 hg1 => ?_⟩
    refine ⟨_, rfl, _, rfl, g, 1, m, _, rfl, by omega, by omega, hg1, by omega, fun b H2 b1 b2 bt2 hg2 => ⟨_, _, rfl, ?_⟩⟩
    obtain ⟨a', rfl⟩ := Int.eq_ofNat_of_zero_le (show 0 ≤ a by omega)
    obtain ⟨b', rfl⟩ := Int.eq_ofNat_of_zero_le (show 0 ≤ b by omega)
    refine ⟨_, rfl, t, rfl, ?_⟩
    cases t with
    | true =>
      refine iteT ⟨_, rfl, _, rfl, _, rfl, _, rfl, by show 4 ≤ sizeLine; decide, fun p hp => ?_⟩
      exact q _ ⟨a', b', a', b'⟩ _ ⟨by show 1 ≤ a'; omega, by show 1 ≤ b'; omega, by show 1 ≤ a'; omega, by show 1 ≤ b'; omega, Nat.le_refl _, Nat.le_refl _⟩ ⟨by show a' ≤ m; omega, by show b' ≤ m; omega, by show a' ≤ 2 * m; omega, by show b' ≤ 2 * m; omega⟩
        ((bt1.trans bt2).trans (same_new hp).but) ((hg2.same (same_new hp)).le (by omega)) (tp_link ⟨a', b', a', b'⟩ upd_same)
    | false =>
      refine iteF ⟨_, rfl, _, rfl, _, rfl, _, rfl, _, rfl, g, m, _, rfl, by omega, by omega, hg2, by omega, fun x H3 x1 x2 bt3 hg3 => ⟨_, _, rfl, rfl, ?_⟩⟩
      refine ⟨_, rfl, _, rfl, _, rfl, g, m, _, rfl, by omega, by omega, hg3, by omega, fun y H4 y1 y2 bt4 hg4 => ⟨_, _, rfl, rfl, ?_⟩⟩
      obtain ⟨x', rfl⟩ := Int.eq_ofNat_of_zero_le x1
      obtain ⟨y', rfl⟩ := Int.eq_ofNat_of_zero_le y1
      refine ⟨by show 4 ≤ sizeLine; decide, fun p hp => ?_⟩
      exact q _ ⟨a', b', a' + x', b' + y'⟩ _ ⟨by show 1 ≤ a'; omega, by show 1 ≤ b'; omega, by show 1 ≤ a' + x'; omega, by show 1 ≤ b' + y'; omega, by show a' ≤ a' + x'; omega, by show b' ≤ b' + y'; omega⟩
        ⟨by show a' ≤ m; omega, by show b' ≤ m; omega, by show a' + x' ≤ 2 * m; omega, by show b' + y' ≤ 2 * m; omega⟩
        ((((bt1.trans bt2).trans bt3).trans bt4).trans (same_new hp).but) ((hg4.same (same_new hp)).le (by omega)) (tp_link ⟨a', b', a' + x', b' + y'⟩ (by rw [upd_same]; rfl))

abbrev s__law_contents : Stmt := topS 49
theorem sc__law_contents : FnScope ["_law_generator_here", "_law_link_here", "_law_bit", "_law_own", "_law_lot", "_law_many", "_law_new", "_law_zeros", "_law_ones", "_law_first", "_law_second", "_law_there", "_law_back"] ["_law_generator_here", "_law_link_here"] (defScope s__law_contents) := ⟨rfl, rfl, rfl, by decide +kernel, rfl, by decide +kernel, by decide +kernel⟩
def spContents (K : PySem.W.Frag) : Sp := fun vs H Q _ => ∃ (g : Addr) (v : V) (L : Lk) (B : Int), vs = [.ref g, v] ∧ L.Ok ∧ L.Sm (10 ^ 20) ∧ Tp K H v (dL L) ∧ Gn H g B ∧ B ≤ 10000000 ∧
  ∀ (u : V) (c : Ct) (H' : Hp), c.Ok L → But g H H' → Gn H' g (B + 100) → Tp K H' u (dC c) → Q u H'
theorem ok_contents (F : Fun K "_law_contents" "_law_contents" s__law_contents f fd) (g__law_random : Fn P w K mg base 2 "_law_random" ["_law_generator_here", "_law_bound"] spRandom) (g__law_count : Fn P w K mg base 3 "_law_count" ["_law_generator_here", "_law_most"] spCount) : FnOk P w K mg base CX0 4 f fd ["_law_generator_here", "_law_link_here"] (spContents K) := by
  refine F.ok sc__law_contents (fun vs H Q E h => ?_) (fun cdv A outer s H vs Q E hr h => ?_)
  · obtain ⟨g, v, L, B, rfl, _⟩ := h
    rfl
  · obtain ⟨g, v, L, B, rfl, hL, hS, hv, hg, hB, q⟩ := h
    have h20 : (10 : Nat) ^ 20 < 2 ^ 70 := by decide
    have b1 := hS.c; have b2 := hS.d; have b3 := hS.p; have b4 := hS.q
    have o1 := hL.c; have o2 := hL.d; have o3 := hL.p; have o4 := hL.q
    obtain ⟨la, lx, rfl, hlq, hla⟩ := hv.tup_inv
    have elx : lx = [.int L.c, .int L.d, .int L.p, .int L.q] := by
      cases hla with
      | cons h1 t => cases t with
        | cons h2 t => cases t with
          | cons h3 t => cases t with
            | cons h4 t => cases t; rw [h1.int_inv, h2.int_inv, h3.int_inv, h4.int_inv]
    subst elx
    refine ⟨_, (pss_cons (ps_par (i := 2) (j := 3) rfl sc__law_contents.nd rfl rfl (by decide) rfl rfl (pa_cons (pe_fn g__law_random (hr.mono (by decide)) (by rfl) (pa_cons (pv 0) (pa_cons pe_int pa_nil))) (pa_cons (pe_fn g__law_random (hr.mono (by decide)) (by rfl) (pa_cons (pv 0) (pa_cons pe_int pa_nil))) pa_nil)) (by rfl))
        (pss_cons (ps_par (i := 4) (j := 5) rfl sc__law_contents.nd rfl rfl (by decide) rfl rfl (pa_cons pe_non (pa_cons (pe_fn g__law_count (hr.mono (by decide)) (by rfl) (pa_cons (pv 0) (pa_cons (pe_op op_sub (pe_ix ix_tup (pv 1) pe_int (fun _ _ => rfl)) pe_int) pa_nil))) pa_nil)) (by rfl))
        (C8.pss_cut (ps_if (pt_cmpR op_gt (pv 5) pe_int (nomark _))
         (pss_one (ps_set (i := 4) sc__law_contents.nd rfl (.inl rfl) (pe_tup (pa_cons (pe_ifExp (pt_cmpR op_ne (pv 2) (pv 3) (nomark _)) (pe_ix ix_list (pe_lst (pa_cons pe_str (pa_cons pe_str pa_nil))) (pe_fn g__law_random (hr.mono (by decide)) (by rfl) (pa_cons (pv 0) (pa_cons pe_int pa_nil))) (fun _ _ => rfl)) pe_str) (pa_cons (pv 5) pa_nil)))))
         pss_nil)
        (pss_cons (ps_set (i := 6) sc__law_contents.nd rfl (.inl rfl) (pe_fn g__law_count (hr.mono (by decide)) (by rfl) (pa_cons (pv 0) (pa_cons (pe_ix ix_tup (pv 1) pe_int (fun _ _ => rfl)) pa_nil))))
        (pss_cons (ps_set (i := 7) sc__law_contents.nd rfl (.inl rfl) (pe_fn g__law_count (hr.mono (by decide)) (by rfl) (pa_cons (pv 0) (pa_cons (pe_op op_sub (pe_ix ix_tup (pv 1) pe_int (fun _ _ => rfl)) (pv 6)) pa_nil))))
        (pss_cons (ps_set (i := 8) sc__law_contents.nd rfl (.inl rfl) (pe_fn g__law_count (hr.mono (by decide)) (by rfl) (pa_cons (pv 0) (pa_cons (pe_op op_sub (pe_op op_sub (pe_ix ix_tup (pv 1) pe_int (fun _ _ => rfl)) (pv 6)) (pv 7)) pa_nil))))
        (pss_cons (ps_set (i := 9) sc__law_contents.nd rfl (.inl rfl) (pe_fn g__law_count (hr.mono (by decide)) (by rfl) (pa_cons (pv 0) (pa_cons (pe_ix ix_tup (pv 1) pe_int (fun _ _ => rfl)) pa_nil))))
        (pss_cons (ps_set (i := 10) sc__law_contents.nd rfl (.inl rfl) (pe_fn g__law_count (hr.mono (by decide)) (by rfl) (pa_cons (pv 0) (pa_cons (pe_op op_sub (pe_ix ix_tup (pv 1) pe_int (fun _ _ => rfl)) (pv 9)) pa_nil))))
        (pss_cons (ps_par (i := 11) (j := 12) rfl sc__law_contents.nd rfl rfl (by decide) rfl rfl (pa_cons (pe_tup (pa_cons (pv 6) (pa_cons (pv 7) (pa_cons (pv 8) pa_nil)))) (pa_cons (pe_ix ix_list (pe_lst (pa_cons (pe_tup (pa_cons (pv 9) (pa_cons (pv 10) pa_nil))) (pa_cons (pe_tup (pa_cons (pv 10) (pa_cons (pv 9) pa_nil))) pa_nil))) (pe_fn g__law_random (hr.mono (by decide)) (by rfl) (pa_cons (pv 0) (pa_cons pe_int pa_nil))) (fun _ _ => rfl)) pa_nil)) (by rfl))
        (pss_one (ps_ret (pe_tup (pa_cons (pe_tup (pa_cons (pv 2) (pa_cons (pe_fn g__law_count (hr.mono (by decide)) (by rfl) (pa_cons (pv 0) (pa_cons (pe_op op_sub (pe_ix ix_tup (pv 1) pe_int (fun _ _ => rfl)) pe_int) pa_nil))) pa_nil))) (pa_cons (pe_tup (pa_cons (pv 3) (pa_cons (pv 4) (pa_cons (pe_cmpR op_eq (pe_fn g__law_random (hr.mono (by decide)) (by rfl) (pa_cons (pv 0) (pa_cons pe_int pa_nil))) pe_int (nomark _)) pa_nil)))) (pa_cons (pv 11) (pa_cons (pv 12) pa_nil)))))))))))))))), ?_⟩
    -- bit, own
    refine ⟨_, rfl, g, 2, B, rfl, by decide, by decide, hg, by omega, fun bit H1 bit0 bit1 bt1 hg1 => ?_⟩
    refine ⟨_, rfl, g, 2, _, rfl, by decide, by decide, hg1, by omega, fun own H2 own0 own1 bt2 hg2 => ⟨_, _, rfl, ?_⟩⟩
    have g2 : Gr H H2 := (hg.gr bt1).trans (hg1.gr bt2)
    -- lot, many
    refine ⟨_, rfl, _, rfl, la, _, 2, .int L.p, rfl, rfl, g2.sqT hlq, atI_nat (j := 2) rfl, _, _, rfl, rfl, g, (L.p : Int) - 1, _, rfl, by omega, by omega, hg2, by omega, fun many H3 many0 many1 bt3 hg3 => ⟨_, _, rfl, ?_⟩⟩
    obtain ⟨bit, rfl⟩ := Int.eq_ofNat_of_zero_le bit0
    obtain ⟨own, rfl⟩ := Int.eq_ofNat_of_zero_le own0
    obtain ⟨many, rfl⟩ := Int.eq_ofNat_of_zero_le many0
    have g3 := g2.trans (hg2.gr bt3)
    have btA := (bt1.trans bt2).trans bt3
    -- if many > 0
    refine ⟨fun σ' H' => ∃ (lv : V) (lot : Option (Bool × Nat)), σ' = [some (.ref g), some (.ref la), some (.int bit), some (.int own), some lv, some (.int many), none, none, none, none, none, none, none] ∧ But g H H' ∧ Gr H H' ∧ Gn H' g (B + 20) ∧ Tp K H' lv (dLot lot) ∧ lotOk L.p bit own lot, ?_, ?_⟩
    · refine ⟨_, rfl, _, _, rfl, rfl, _, rfl, ite2 (fun e => ?_) (fun e => ?_)⟩
      · have mp : (0 : Int) < (many : Int) := of_decide_eq_true e
        refine ⟨_, rfl, _, rfl, rfl, _, rfl, ?_⟩
        by_cases hbo : (bit : Int) = (own : Int)
        · rw [show (!decide (V.int (bit : Int) = V.int (own : Int))) = false by rw [hbo]; simp]
          refine iteF ⟨_, rfl, by show 2 ≤ sizeLine; decide, fun p hp => ⟨_, some (false, many), rfl, btA.trans (same_new hp).but, g3.trans (same_new hp).gr, (hg3.same (same_new hp)).le (by omega), .tup (SqT.of upd_same) (.cons (.str _) (.cons (.int _) .nil)), ?_⟩⟩
          exact ⟨by omega, by omega, fun h => by cases h⟩
        · rw [show (!decide (V.int (bit : Int) = V.int (own : Int))) = true by rw [decide_eq_false (fun z => hbo (V.int.inj z))]; rfl]
          refine iteT ⟨by show 2 ≤ sizeLine; decide, fun p hp => ⟨_, rfl, g, 2, _, rfl, by decide, by decide, hg3.same (same_new hp), by omega, fun r H4 r0 r1 bt4 hg4 => ?_⟩⟩
          have hgp := hg3.ne hp
          have hp4 : H4 p = some (.lst [.str "old", .str "new"]) := bt4 p _ hgp.symm upd_same
          have gp := (same_new (o := .lst [.str "old", .str "new"]) hp)
          have g4 : Gr H H4 := (g3.trans gp.gr).trans ((hg3.same gp).gr bt4)
          have btB := (btA.trans gp.but).trans bt4
          have hr : r = 0 ∨ r = 1 := by omega
          rcases hr with rfl | rfl
          · refine ⟨p, _, 0, .str "old", rfl, rfl, SqL.of hp4, atI_nat (j := 0) rfl, _, rfl, by show 2 ≤ sizeLine; decide, fun p2 hp2 => ⟨_, some (false, many), rfl, btB.trans (same_new hp2).but, g4.trans (same_new hp2).gr, (hg4.same (same_new hp2)).le (by omega), .tup (SqT.of upd_same) (.cons (.str _) (.cons (.int _) .nil)), ?_⟩⟩
            exact ⟨by omega, by omega, fun h => by cases h⟩
          · refine ⟨p, _, 1, .str "new", rfl, rfl, SqL.of hp4, atI_nat (j := 1) rfl, _, rfl, by show 2 ≤ sizeLine; decide, fun p2 hp2 => ⟨_, some (true, many), rfl, btB.trans (same_new hp2).but, g4.trans (same_new hp2).gr, (hg4.same (same_new hp2)).le (by omega), .tup (SqT.of upd_same) (.cons (.str _) (.cons (.int _) .nil)), ?_⟩⟩
            exact ⟨by omega, by omega, fun _ => by omega⟩
      · exact ⟨.non, none, rfl, btA, g3, hg3.le (by omega), .non, trivial⟩
    · rintro σ' H4 ⟨lv, lot, rfl, btC, g4, hg4, tl, lok⟩
      -- new, zeros, ones
      refine ⟨_, rfl, _, rfl, la, _, 0, .int L.c, rfl, rfl, g4.sqT hlq, atI_nat (j := 0) rfl, g, L.c, _, rfl, by omega, by omega, hg4, by omega, fun n H5 n0 n1 bt5 hg5 => ?_⟩
      have g5 := g4.trans (hg4.gr bt5)
      refine ⟨_, rfl, _, rfl, la, _, 0, .int L.c, rfl, rfl, g5.sqT hlq, atI_nat (j := 0) rfl, _, rfl, _, _, rfl, rfl, g, (L.c : Int) - n, _, rfl, by omega, by omega, hg5, by omega, fun z H6 z0 z1 bt6 hg6 => ?_⟩
      have g6 := g5.trans (hg5.gr bt6)
      refine ⟨_, rfl, _, rfl, la, _, 0, .int L.c, rfl, rfl, g6.sqT hlq, atI_nat (j := 0) rfl, _, rfl, _, _, rfl, rfl, _, rfl, _, _, rfl, rfl, g, (L.c : Int) - n - z, _, rfl, by omega, by omega, hg6, by omega, fun o H7 o0 o1 bt7 hg7 => ?_⟩
      have g7 := g6.trans (hg6.gr bt7)
      -- first, second
      refine ⟨_, rfl, _, rfl, la, _, 1, .int L.d, rfl, rfl, g7.sqT hlq, atI_nat (j := 1) rfl, g, L.d, _, rfl, by omega, by omega, hg7, by omega, fun fi H8 f0 f1 bt8 hg8 => ?_⟩
      have g8 := g7.trans (hg7.gr bt8)
      refine ⟨_, rfl, _, rfl, la, _, 1, .int L.d, rfl, rfl, g8.sqT hlq, atI_nat (j := 1) rfl, _, rfl, _, _, rfl, rfl, g, (L.d : Int) - fi, _, rfl, by omega, by omega, hg8, by omega, fun se H9 s0 s1 bt9 hg9 => ?_⟩
      have g9 := g8.trans (hg8.gr bt9)
      obtain ⟨n, rfl⟩ := Int.eq_ofNat_of_zero_le n0
      obtain ⟨z, rfl⟩ := Int.eq_ofNat_of_zero_le z0
      obtain ⟨o, rfl⟩ := Int.eq_ofNat_of_zero_le o0
      obtain ⟨fi, rfl⟩ := Int.eq_ofNat_of_zero_le f0
      obtain ⟨se, rfl⟩ := Int.eq_ofNat_of_zero_le s0
      have btD := ((((btC.trans bt5).trans bt6).trans bt7).trans bt8).trans bt9
      -- there, back
      refine ⟨_, rfl, _, rfl, _, rfl, by show 3 ≤ sizeLine; decide, fun t1 ht1 => ?_⟩
      have m1 := same_new (o := .tup [.int n, .int z, .int o]) ht1
      refine ⟨_, rfl, _, rfl, by show 2 ≤ sizeLine; decide, fun t2 ht2 => ?_⟩
      have m2 := same_new (o := .tup [.int fi, .int se]) ht2
      refine ⟨_, rfl, _, rfl, by show 2 ≤ sizeLine; decide, fun t3 ht3 => ?_⟩
      have m3 := same_new (o := .tup [.int se, .int fi]) ht3
      refine ⟨by show 2 ≤ sizeLine; decide, fun t4 ht4 => ?_⟩
      have m4 := same_new (o := .lst [.ref t2, .ref t3]) ht4
      have mm := ((m1.trans m2).trans m3).trans m4
      have hg10 := hg9.same mm
      refine ⟨_, rfl, g, 2, _, rfl, by decide, by decide, hg10, by omega, fun r H10 r0 r1 bt10 hg11 => ?_⟩
      have h4 : H10 t4 = some (.lst [.ref t2, .ref t3]) := bt10 _ _ ((hg9.same ((m1.trans m2).trans m3)).ne ht4).symm upd_same
      have g10 := (g9.trans mm.gr).trans (hg10.gr bt10)
      have gA : Gr _ H10 := (((m2.trans m3).trans m4).gr).trans (hg10.gr bt10)
      have gB : Gr _ H10 := ((m3.trans m4).gr).trans (hg10.gr bt10)
      have gC : Gr _ H10 := m4.gr.trans (hg10.gr bt10)
      have e1 := SqT.of (K := K) (gA.1 t1 _ upd_same)
      have e2 := SqT.of (K := K) (gB.1 t2 _ upd_same)
      have e3 := SqT.of (K := K) (gC.1 t3 _ upd_same)
      have btE := (btD.trans mm.but).trans bt10
      have pick : ∃ (tb : Addr) (x y : Nat), atI [V.ref t2, V.ref t3] r = some (.ref tb) ∧ SqT K H10 tb [.int x, .int y] ∧ x + y ≤ L.d := by
        have hr : r = 0 ∨ r = 1 := by omega
        rcases hr with rfl | rfl
        · exact ⟨t2, fi, se, atI_nat (j := 0) rfl, e2, by omega⟩
        · exact ⟨t3, se, fi, atI_nat (j := 1) rfl, e3, by omega⟩
      obtain ⟨tb, x, y, hat, htb, hxy⟩ := pick
      refine ⟨t4, _, r, .ref tb, rfl, rfl, SqL.of h4, hat, _, _, rfl, ?_⟩
      -- return
      refine ⟨_, rfl, _, rfl, _, rfl, la, _, 3, .int L.q, rfl, rfl, g10.sqT hlq, atI_nat (j := 3) rfl, _, _, rfl, rfl, g, (L.q : Int) - 1, _, rfl, by omega, by omega, hg11, by omega, fun hd H11 hd0 hd1 bt11 hg12 => ?_⟩
      obtain ⟨hd, rfl⟩ := Int.eq_ofNat_of_zero_le hd0
      have g11 := g10.trans (hg11.gr bt11)
      refine ⟨by show 2 ≤ sizeLine; decide, fun u1 hu1 => ?_⟩
      have m5 := same_new (o := .tup [.int bit, .int hd]) hu1
      have hg13 := hg12.same m5
      refine ⟨_, rfl, _, rfl, _, rfl, g, 2, _, rfl, by decide, by decide, hg13, by omega, fun dn H12 dn0 dn1 bt12 hg14 => ?_⟩
      refine ⟨rfl, by show 3 ≤ sizeLine; decide, fun u2 hu2 => ?_⟩
      have m6 := same_new (o := .tup [.int own, lv, .bl (decide (V.int dn = V.int 1))]) hu2
      refine ⟨_, rfl, _, rfl, by show 4 ≤ sizeLine; decide, fun u3 hu3 => ?_⟩
      have m7 := same_new (o := .tup [.ref u1, .ref u2, .ref t1, .ref tb]) hu3
      have gX : Gr H10 _ := (((hg11.gr bt11).trans m5.gr).trans (hg13.gr bt12)).trans (m6.trans m7).gr
      have gY : Gr _ _ := ((hg13.gr bt12)).trans (m6.trans m7).gr
      refine q _ ⟨bit, hd, own, lot, decide (V.int dn = V.int 1), n, z, o, x, y⟩ _ ?_ ?_ (((hg14.same m6).same m7).le (by omega)) ?_
      · exact ⟨by show bit ≤ 1; omega, by show hd + 1 ≤ L.q; omega, by show own ≤ 1; omega, lok, by show n + z + o ≤ L.c; omega, hxy⟩
      · exact ((((btE.trans bt11).trans m5.but).trans bt12).trans m6.but).trans m7.but
      · refine .tup (SqT.of upd_same) (.cons (.tup (SqT.of (gY.1 u1 _ upd_same)) (.cons (.int _) (.cons (.int _) .nil))) (.cons (.tup (SqT.of (m7 _ _ upd_same)) (.cons (.int _) (.cons (tl.gr ?_) (.cons (.bl _) .nil)))) (.cons (.tup (gX.sqT e1) (.cons (.int _) (.cons (.int _) (.cons (.int _) .nil)))) (.cons (.tup (gX.sqT htb) (.cons (.int _) (.cons (.int _) .nil))) .nil))))
        have gZ : Gr H4 H10 := ((((((hg4.gr bt5).trans (hg5.gr bt6)).trans (hg6.gr bt7)).trans (hg7.gr bt8)).trans (hg8.gr bt9)).trans mm.gr).trans (hg10.gr bt10)
        exact gZ.trans gX
end
end Hw

set_option Elab.async false
set_option linter.all false
set_option maxRecDepth 100000
set_option maxHeartbeats 4000000
/-! H8: the law's own step. -/
namespace Hw
open PySem PySem.Spec PyProof.Rows L2
section
variable {P : Program} {w : World} {K : PySem.W.Frag} {mg : Str → Option Value} {base : Heap} {f : Addr} {fd : FuncData}
/-! ### counts with more at a place -/
def moreI (ns : List Int) (p m : Int) : List Int := ns.mapIdx fun i n => if (i : Int) = p then n + m else n
abbrev s__law_more : Stmt := topS 42
theorem sc__law_more : FnScope ["_law_counts", "_law_place", "_law_more_here", "_law_at", "_law_many"] ["_law_counts", "_law_place", "_law_more_here"] (defScope s__law_more) := ⟨rfl, rfl, rfl, by decide +kernel, rfl, by decide +kernel, by decide +kernel⟩
def R_more (ds : List PyData) (d : PyData) : Prop := ∃ (ns : List Int) (p m : Int), ns.length ≤ 100 ∧ ds = [.tuple (ns.map .int), .int p, .int m] ∧ d = .tuple ((moreI ns p m).map .int)
theorem ok_more (F : Fun K "_law_more" "_law_more" s__law_more f fd) (B : Bt mg) : FnOk P w K mg base CX0 1 f fd ["_law_counts", "_law_place", "_law_more_here"] (spR K R_more) := by
  refine ok_pure (N := ["_law_counts", "_law_place", "_law_more_here", "_law_at", "_law_many"]) F sc__law_more (fun ds d ⟨ns, p, m, _, h2, _⟩ => by rw [h2]; rfl) fun cdv A outer st H E hr ds d ⟨ns, p, m, hz, e1, e2⟩ => ?_
  subst e1 e2
  refine ⟨_, (pss_one (ps_ret (pe_callTy call_tuple_of (by rfl) B.tuple (by decide +kernel) (pa_cons (pe_lc (own := [("_law_at", 3), ("_law_many", 4)]) rfl sc__law_more.nd (pi_enumT (by rfl) B.enumerate (pa_cons (pv 0) pa_nil)) (blkOk_by (N := ["_law_counts", "_law_place", "_law_more_here", "_law_at", "_law_many"]) (sc := defScope s__law_more) (by decide +kernel)) (fun _ _ _ _ _ => (show PG _ _ (gTup K 2 _) from (pg_tup rfl (pgs_cons (pg_name (i := 3) sc__law_more.nd rfl (.inl rfl)) (pgs_cons (pg_name (i := 4) sc__law_more.nd rfl (.inl rfl)) pgs_nil))))) (fun _ _ _ _ _ => pts_nil) (fun _ _ _ _ _ => (pe_ifExp (pt_cmpR op_eq (pv 3) (pv 1) (nomark _)) (pe_op op_add (pv 4) (pv 2)) (pv 4)))) pa_nil)))), ?_⟩
  have mem : ∀ d ∈ enumD (ns.map .int), ∃ i n : Int, d = .tuple [.int i, .int n] := by
    intro d hd
    obtain ⟨i, hi, e⟩ := List.mem_mapIdx.mp hd
    rw [List.getElem_map] at e
    exact ⟨_, _, e.symm⟩
  let Γt : PyData → Cty := fun d => match d with
    | .tuple [a, b] => ((wipeG (ctx0 5 [.tuple (ns.map .int), .int p, .int m]) [3, 4]).set 3 (some (.dat a))).set 4 (some (.dat b))
    | _ => []
  let e : PyData → PyData := fun d => match d with
    | .tuple [.int i, .int n] => .int (if i = p then n + m else n)
    | _ => .none
  refine rd_ret (EvD.is (ed_tupleOf (el_lcAll (vs := [3, 4]) (Γt := Γt) (e := e) (by unfold enumD; simp; omega) (id_enumT (ed_var rfl)) ?_ ?_)) ?_)
  · intro d hd
    obtain ⟨i, n, rfl⟩ := mem d hd
    exact tc_tup (tcs_cons (tc_name (by simp)) (tcs_cons (tc_name (by simp)) tcs_nil)) rfl
  · intro d hd
    obtain ⟨i, n, rfl⟩ := mem d hd
    show EvD K _ _ (.int (if i = p then n + m else n))
    by_cases h : i = p
    · rw [if_pos h]
      exact ed_ifT (EvB.is (eb_test (ed_eqI (i := i) (j := p) (ed_var rfl) (ed_var rfl))) (decide_eq_true h)) (ed_II (i := n) (j := m) (ed_var rfl) (ed_var rfl))
    · rw [if_neg h]
      exact ed_ifF (EvB.is (eb_test (ed_eqI (i := i) (j := p) (ed_var rfl) (ed_var rfl))) (decide_eq_false h)) (ed_var rfl)
  · congr 1
    apply List.ext_getElem
    · simp [enumD, moreI]
    · intro i h1 h2
      simp [enumD, moreI, e]
end
end Hw

set_option Elab.async false
set_option linter.all false
set_option maxRecDepth 100000
set_option maxHeartbeats 4000000
/-! H9: one step of the law's own machine. -/
namespace Hw
open PySem PySem.Spec PyProof.Rows L2

/-! ### the step in plain Lean -/
inductive Ev where
  | send
  | drop (i : Nat)
  | bring (i : Nat)
  | miss (i : Nat)
  | hear (i : Nat)
  deriving DecidableEq
def placeS : Nat → Str
  | 0 => "new"
  | 1 => "zero"
  | _ => "one"
def dEv : Ev → PyData
  | .send => .tuple [.str "send"]
  | .drop i => .tuple [.str "drop", .str (placeS i)]
  | .bring i => .tuple [.str "bring", .str (placeS i)]
  | .miss i => .tuple [.str "miss", .int i]
  | .hear i => .tuple [.str "hear", .int i]
def Ev.Ok : Ev → Prop
  | .send => True
  | .drop i => i < 3
  | .bring i => i < 3
  | .miss i => i < 2
  | .hear i => i < 2
def dW : Option Str → PyData
  | none => .none
  | some s => .str s
def pick3 (i n z o : Nat) : Nat := if i = 0 then n else if i = 1 then z else o
def pick2 (i a b : Nat) : Nat := if i = 0 then a else b
def subAt (k i n : Nat) : Nat := if k = i then n - 1 else n
def addAt (k i n : Nat) : Nat := if k = i then n + 1 else n
def manyL (lot : Option (Bool × Nat)) (nw : Bool) : Nat := match lot with
  | some (b, k) => if b = nw then k + 1 else 1
  | none => 1
def bring1 (p own : Nat) (lot : Option (Bool × Nat)) (done : Bool) (borne : Nat) (nw : Bool) : Nat × Option (Bool × Nat) × Bool × Option Str :=
  if borne = own then (own, none, done, none)
  else if p ≤ manyL lot nw then (borne, none, done || nw, if nw then (if done then some "twice" else none) else some "made")
  else (own, some (nw, manyL lot nw), done, none)
def borneL (c : Ct) (i : Nat) : Nat := if i = 0 then c.bit else i - 1
def mBring (L : Lk) (c : Ct) (i : Nat) : Ct × Option Str :=
  let r := bring1 L.p c.own c.lot c.done (borneL c i) (decide (i = 0))
  let up := r.1 = borneL c i ∧ c.b0 + c.b1 < L.d
  (⟨c.bit, c.heard, r.1, r.2.1, r.2.2.1, subAt 0 i c.n, subAt 1 i c.z, subAt 2 i c.o, if up then addAt 0 (borneL c i) c.b0 else c.b0, if up then addAt 1 (borneL c i) c.b1 else c.b1⟩, r.2.2.2)
def mHear (L : Lk) (c : Ct) (i : Nat) : Ct × Option Str :=
  if c.heard + 1 < L.q then (⟨c.bit, c.heard + 1, c.own, c.lot, c.done, c.n, c.z, c.o, subAt 0 i c.b0, subAt 1 i c.b1⟩, none)
  else (⟨1 - c.bit, 0, c.own, c.lot.map fun x => (false, x.2), false, 0, if c.bit = 0 then c.z + c.n else c.z, if c.bit = 1 then c.o + c.n else c.o, subAt 0 i c.b0, subAt 1 i c.b1⟩, if c.done then none else some "lost")
def mMiss (c : Ct) (i : Nat) : Ct × Option Str := (⟨c.bit, c.heard, c.own, c.lot, c.done, c.n, c.z, c.o, subAt 0 i c.b0, subAt 1 i c.b1⟩, none)
def mStep (L : Lk) (c : Ct) : Ev → Option (Ct × Option Str)
  | .send => if c.n + c.z + c.o < L.c then some (⟨c.bit, c.heard, c.own, c.lot, c.done, c.n + 1, c.z, c.o, c.b0, c.b1⟩, none) else none
  | .drop i => if pick3 i c.n c.z c.o = 0 then none else some (⟨c.bit, c.heard, c.own, c.lot, c.done, subAt 0 i c.n, subAt 1 i c.z, subAt 2 i c.o, c.b0, c.b1⟩, none)
  | .bring i => if pick3 i c.n c.z c.o = 0 then none else some (mBring L c i)
  | .miss i => if pick2 i c.b0 c.b1 = 0 then none else some (mMiss c i)
  | .hear i => if pick2 i c.b0 c.b1 = 0 then none else if i ≠ c.bit then some (mMiss c i) else some (mHear L c i)

section
variable {K : PySem.W.Frag} {Γ Γ' : Cty} {ds : List PyData} {te ta tb tc : TE} {t u z : TS} {c : TT}
/-! ### bodies that hand back None or a new list -/
def RunO (K : PySem.W.Frag) (t : TS) (Γ : Cty) (r : Option (List PyData)) : Prop := match r with
  | none => RunD K t Γ .none
  | some es => RunL K t Γ es
variable {r : Option (List PyData)}
theorem ro_seq (h : RunF K t Γ Γ') (h2 : RunO K u Γ' r) : RunO K (tSeq t u) Γ r := by
  cases r with
  | none => exact rd_seq h h2
  | some es => exact rl_seq h h2
theorem ro_sT (h : EvB K c Γ true) (h1 : RunO K t Γ r) : RunO K (tSeq (tIfS c t u) z) Γ r := by
  cases r with
  | none => exact rd_sT h h1
  | some es => exact rl_sT h h1
theorem ro_skip (h : EvB K c Γ false) (h2 : RunO K z Γ r) : RunO K (tSeq (tIfS c t tNext) z) Γ r := by
  cases r with
  | none => exact rd_skip h h2
  | some es => exact rl_skip h h2
theorem ro_none (h : EvD K te Γ .none) : RunO K (tRet te) Γ none := rd_ret h
theorem ro_some {es : List PyData} (h : EvL K te Γ es) : RunO K (tRet te) Γ (some es) := rl_ret h
/-- one slot less known -/
theorem env_forget {H : Hp} {σ : L2.St} (E : EnvD K H σ Γ) (i : Nat) : EnvD K H σ (Γ.set i none) := ⟨by rw [List.length_set]; exact E.len, fun j A e => by
  by_cases hj : i = j
  · subst hj
    by_cases hi : i < Γ.length
    · rw [List.getElem?_set_self hi] at e; cases e
    · rw [List.getElem?_eq_none (by simpa using hi)] at e; cases e
  · rw [List.getElem?_set_ne hj] at e; exact E.at_ j A e⟩
theorem rf_forget (i : Nat) (h : RunF K t Γ Γ') : RunF K t Γ (Γ'.set i none) := fun D σ H E k => h D σ H E fun σ' H' s E' => k σ' H' s (env_forget E' i)
theorem rf_is {Γ'' : Cty} (h : RunF K t Γ Γ') (e : Γ' = Γ'') : RunF K t Γ Γ'' := e ▸ h
/-! ### counts -/
theorem ed_more {E : XK} {ns : List Int} {p m : Int} (h1 : EvD K ta Γ (.tuple (ns.map .int))) (h2 : EvD K tb Γ (.int p)) (h3 : EvD K tc Γ (.int m)) (hn : ns.length ≤ 100) :
    EvD K (tCall (spR K R_more) [] E (tCons ta (tCons tb (tCons tc tNil)))) Γ (.tuple ((moreI ns p m).map .int)) :=
  ed_call (ea_cons h1 (ea_cons h2 (ea_cons h3 ea_nil))) ⟨ns, p, m, hn, rfl, rfl⟩
theorem more3_sub (i n z o : Nat) (hi : i < 3) (h : pick3 i n z o ≠ 0) : (moreI [(n : Int), z, o] i (-1)).map .int = [PyData.int (subAt 0 i n : Nat), .int (subAt 1 i z : Nat), .int (subAt 2 i o : Nat)] := by
  unfold pick3 at h
  match i, hi with
  | 0, _ => simp [moreI, subAt] at h ⊢; omega
  | 1, _ => simp [moreI, subAt] at h ⊢; omega
  | 2, _ => simp [moreI, subAt] at h ⊢; omega
theorem more2_sub (i a b : Nat) (hi : i < 2) (h : pick2 i a b ≠ 0) : (moreI [(a : Int), b] i (-1)).map .int = [PyData.int (subAt 0 i a : Nat), .int (subAt 1 i b : Nat)] := by
  unfold pick2 at h
  match i, hi with
  | 0, _ => simp [moreI, subAt] at h ⊢; omega
  | 1, _ => simp [moreI, subAt] at h ⊢; omega
theorem more2_add (i a b : Nat) (hi : i < 2) : (moreI [(a : Int), b] i 1).map .int = [PyData.int (addAt 0 i a : Nat), .int (addAt 1 i b : Nat)] := by
  match i, hi with
  | 0, _ => simp [moreI, addAt]
  | 1, _ => simp [moreI, addAt]
theorem more3_send (n z o : Nat) : (moreI [(n : Int), z, o] 0 1).map .int = [PyData.int (n + 1 : Nat), .int z, .int o] := by simp [moreI]
theorem more3_hear (b n z o : Nat) (hb : b ≤ 1) : (moreI [(0 : Int), z, o] (1 + b) n).map .int = [PyData.int (0 : Nat), .int ((if b = 0 then z + n else z : Nat) : Int), .int ((if b = 1 then o + n else o : Nat) : Int)] := by
  have : b = 0 ∨ b = 1 := by omega
  rcases this with rfl | rfl <;> simp [moreI]
theorem ed_pick {ns : List PyData} {i : Nat} {x : Nat} (h1 : EvD K ta Γ (.tuple ns)) (h2 : EvD K tb Γ (.int i)) (h : ns[i]? = some (.int x)) : EvD K (tOp (rIxT K) ta tb) Γ (.int x) :=
  ed_ix h1 h2 (by omega) (by simpa using h)
theorem get3 (i n z o : Nat) (hi : i < 3) : [PyData.int n, .int z, .int o][i]? = some (.int (pick3 i n z o : Nat)) := by
  match i, hi with
  | 0, _ => rfl
  | 1, _ => rfl
  | 2, _ => rfl
theorem get2 (i n z : Nat) (hi : i < 2) : [PyData.int n, .int z][i]? = some (.int (pick2 i n z : Nat)) := by
  match i, hi with
  | 0, _ => rfl
  | 1, _ => rfl
theorem ed_place {tl : TE} {i : Nat} (h1 : EvL K tl Γ [.str "new", .str "zero", .str "one"]) (h2 : EvD K ta Γ (.str (placeS i))) (hi : i < 3) : EvD K (tBM K "list" (rIndex K) tl (tCons ta tNil)) Γ (.int i) := by
  match i, hi, h2 with
  | 0, _, h2 => exact ed_index (us := [.str "new", .str "zero", .str "one"]) (j := 0) h1 h2 rfl rfl rfl rfl rfl (by decide +kernel) (fun m y hm _ => absurd hm (Nat.not_lt_zero m))
  | 1, _, h2 => exact ed_index (us := [.str "new", .str "zero", .str "one"]) (j := 1) h1 h2 rfl rfl rfl rfl rfl (by decide +kernel) (fun m y hm hy => by
      have : m = 0 := by omega
      subst this; cases hy; decide +kernel)
  | 2, _, h2 => exact ed_index (us := [.str "new", .str "zero", .str "one"]) (j := 2) h1 h2 rfl rfl rfl rfl rfl (by decide +kernel) (fun m y hm hy => by
      have : m = 0 ∨ m = 1 := by omega
      rcases this with rfl | rfl <;> cases hy <;> decide +kernel)
theorem ed_sum3 {n z o : Nat} (h : EvD K ta Γ (dT n z o)) : EvD K (tCB (rSumT K) (tCons ta tNil)) Γ (.int (n + z + o : Nat)) := (ed_sumT (ns := [(n : Int), z, o]) h).is (congrArg PyData.int (by simp only [List.sum_cons, List.sum_nil]; omega))
theorem ed_sum2 {n z : Nat} (h : EvD K ta Γ (dB n z)) : EvD K (tCB (rSumT K) (tCons ta tNil)) Γ (.int (n + z : Nat)) := (ed_sumT (ns := [(n : Int), z]) h).is (congrArg PyData.int (by simp only [List.sum_cons, List.sum_nil]; omega))
theorem ed_ltN {a b : Nat} (h1 : EvD K ta Γ (.int a)) (h2 : EvD K tb Γ (.int b)) : EvD K (tOp (rI0 fun i j => .bl (decide (i < j))) ta tb) Γ (.bool (decide (a < b))) := (ed_IB h1 h2).is (by congr 1; exact decide_eq_decide.mpr ⟨fun z => by omega, fun z => by omega⟩)
theorem ed_eqN {a b : Nat} (h1 : EvD K ta Γ (.int a)) (h2 : EvD K tb Γ (.int b)) : EvD K (tOp rEq ta tb) Γ (.bool (decide (a = b))) := (ed_eqI h1 h2).is (by congr 1; exact decide_eq_decide.mpr ⟨fun z => by omega, fun z => by omega⟩)
theorem ed_neg {i : Int} (h : EvD K ta Γ (.int i)) : EvD K (tUn (rU fun i => V.int (-i)) ta) Γ (.int (-i)) := fun σ H E Q q => h σ H E _ fun v H1 s1 t1 => by
  cases t1.int_inv
  exact ⟨i, rfl, q _ H1 s1 (.int _)⟩
theorem ed_neN {a b : Nat} (h1 : EvD K ta Γ (.int a)) (h2 : EvD K tb Γ (.int b)) : EvD K (tOp rNe ta tb) Γ (.bool (!decide (a = b))) := (ed_neI h1 h2).is (by congr 2; exact decide_eq_decide.mpr ⟨fun z => by omega, fun z => by omega⟩)
theorem ed_ifW {i : Nat} {b : Bool} (h : EvD K (tVar i) Γ (.bool b)) : EvD K (tIf (tB (tVar i)) (tC (.str "twice")) (tC .non)) Γ (dW (if true then (if b then some ("twice" : Str) else none) else some ("made" : Str))) := by
  cases b with
  | true => exact ed_ifT (eb_val h) ed_str
  | false => exact ed_ifF (eb_val h) ed_non
theorem el_ifT {b : Bool} (h : EvB K c Γ true) (h1 : EvL K ta Γ ds) : EvL K (tIf c ta tb) Γ ds := el_if h (fun _ => h1) (fun e => nomatch e)
theorem el_ifF {b : Bool} (h : EvB K c Γ false) (h1 : EvL K tb Γ ds) : EvL K (tIf c ta tb) Γ ds := el_if h (fun e => nomatch e) (fun _ => h1)
/-- the answer's list -/
theorem el_out {a3 a4 a5 a6 a7 a8 a9 tw : TE} {ct : Ct} {wr : Option Str} (h3 : EvD K a3 Γ (.int ct.bit)) (h4 : EvD K a4 Γ (.int ct.heard)) (h5 : EvD K a5 Γ (.int ct.own)) (h6 : EvD K a6 Γ (dLot ct.lot)) (h7 : EvD K a7 Γ (.bool ct.done))
    (h8 : EvD K a8 Γ (dT ct.n ct.z ct.o)) (h9 : EvD K a9 Γ (dB ct.b0 ct.b1)) (hw : EvD K tw Γ (dW wr)) :
    EvL K (tLst (tCons (tTup (tCons (tTup (tCons a3 (tCons a4 tNil))) (tCons (tTup (tCons a5 (tCons a6 (tCons a7 tNil)))) (tCons a8 (tCons a9 tNil))))) (tCons tw tNil))) Γ [dC ct, dW wr] :=
  el_lst (ea_cons (ed_tup (ea_cons (ed_tup (ea_cons h3 (ea_cons h4 ea_nil)) (by simp)) (ea_cons (ed_tup (ea_cons h5 (ea_cons h6 (ea_cons h7 ea_nil))) (by simp)) (ea_cons h8 (ea_cons h9 ea_nil)))) (by simp)) (ea_cons hw ea_nil)) (by simp)
end

section
variable {P : Program} {w : World} {K : PySem.W.Frag} {mg : Str → Option Value} {base : Heap} {f : Addr} {fd : FuncData}
abbrev s__law_step : Stmt := topS 43
theorem sc__law_step : FnScope ["_law_link_here", "_law_contents_there", "_law_event", "_law_bit", "_law_heard", "_law_own", "_law_lot", "_law_done", "_law_there", "_law_back", "_law_places", "_law_room", "_law_copies", "_law_wanted", "_law_kind", "_law_at", "_law_borne", "_law_sort", "_law_wrong", "_law_many"] ["_law_link_here", "_law_contents_there", "_law_event"] (defScope s__law_step) := ⟨rfl, rfl, rfl, by decide +kernel, rfl, by decide +kernel, by decide +kernel⟩
def spStep (K : PySem.W.Frag) : Sp := fun vs H Q _ => ∃ L c e, TpA K H vs [dL L, dC c, dEv e] ∧ c.bit ≤ 1 ∧ c.own ≤ 1 ∧ e.Ok ∧ match mStep L c e with
  | none => ∀ H', Same H H' → Q .non H'
  | some (c', w) => ∀ p xs H', H p = none → Same H H' → H' p = some (.lst xs) → TpA K H' xs [dC c', dW w] → Q (.ref p) H'
def GS (L : Lk) (d1 d2 : PyData) (bit heard own : Nat) (lot : Option (Bool × Nat)) (done : Bool) (th bk : PyData) (kd : Str) (x15 x16 x17 x18 x19 : Option AV) : Cty :=
  [some (.dat (dL L)), some (.dat d1), some (.dat d2), some (.dat (.int bit)), some (.dat (.int heard)), some (.dat (.int own)), some (.dat (dLot lot)), some (.dat (.bool done)), some (.dat th), some (.dat bk),
   some (.dat (.int L.c)), some (.dat (.int L.d)), some (.dat (.int L.p)), some (.dat (.int L.q)), some (.dat (.str kd)), x15, x16, x17, x18, x19]
theorem ok_step (F : Fun K "_law_step" "_law_step" s__law_step f fd) (B : Bt mg) (g__law_more : Fn P w K mg base 1 "_law_more" ["_law_counts", "_law_place", "_law_more_here"] (spR K R_more)) :
    FnOk P w K mg base CX0 2 f fd ["_law_link_here", "_law_contents_there", "_law_event"] (spStep K) := by
  refine F.ok sc__law_step (fun vs H Q E h => ?_) (fun cdv A outer s H vs Q E hr h => ?_)
  · obtain ⟨L, c, e, t, _⟩ := h
    exact t.length
  · obtain ⟨L, c, e, t, hb, ho, he, q⟩ := h
    refine ⟨_, (pss_cons (ps_asg (pv 1) (pg_tup rfl (pgs_cons (pg_tup rfl (pgs_cons (pg_name (i := 3) sc__law_step.nd rfl (.inl rfl)) (pgs_cons (pg_name (i := 4) sc__law_step.nd rfl (.inl rfl)) pgs_nil))) (pgs_cons (pg_tup rfl (pgs_cons (pg_name (i := 5) sc__law_step.nd rfl (.inl rfl)) (pgs_cons (pg_name (i := 6) sc__law_step.nd rfl (.inl rfl)) (pgs_cons (pg_name (i := 7) sc__law_step.nd rfl (.inl rfl)) pgs_nil)))) (pgs_cons (pg_name (i := 8) sc__law_step.nd rfl (.inl rfl)) (pgs_cons (pg_name (i := 9) sc__law_step.nd rfl (.inl rfl)) pgs_nil))))))
        (pss_cons (ps_asg (pv 0) (pg_tup rfl (pgs_cons (pg_name (i := 10) sc__law_step.nd rfl (.inl rfl)) (pgs_cons (pg_name (i := 11) sc__law_step.nd rfl (.inl rfl)) (pgs_cons (pg_name (i := 12) sc__law_step.nd rfl (.inl rfl)) (pgs_cons (pg_name (i := 13) sc__law_step.nd rfl (.inl rfl)) pgs_nil))))))
        (pss_cons (ps_set (i := 14) sc__law_step.nd rfl (.inl rfl) (pe_ix ix_tup (pv 2) pe_int (fun _ _ => rfl)))
        (pss_cons (ps_if (pt_cmpR op_eq (pv 14) pe_str (nomark _))
         (pss_one (ps_ret (pe_ifExp (pt_cmpR op_lt (pe_callB (cr_sumT rfl) (by rfl) B.sum (by decide +kernel) (pa_cons (pv 8) pa_nil)) (pv 10) (nomark _)) (pe_lst (pa_cons (pe_tup (pa_cons (pe_tup (pa_cons (pv 3) (pa_cons (pv 4) pa_nil))) (pa_cons (pe_tup (pa_cons (pv 5) (pa_cons (pv 6) (pa_cons (pv 7) pa_nil)))) (pa_cons (pe_fn g__law_more (hr.mono (by decide)) (by rfl) (pa_cons (pv 8) (pa_cons pe_int (pa_cons pe_int pa_nil)))) (pa_cons (pv 9) pa_nil))))) (pa_cons pe_non pa_nil))) pe_non)))
         pss_nil)
        (pss_cons (ps_if (pt_cmpR op_in_seq (pv 14) (pe_lst (pa_cons pe_str (pa_cons pe_str pa_nil))) (by rfl))
         (pss_cons (ps_set (i := 15) sc__law_step.nd rfl (.inl rfl) (pe_bm PySem.F.plainAttrs_list PySem.F.slot_list_index PySem.F.type_list_index mt_index (pe_lst (pa_cons pe_str (pa_cons pe_str (pa_cons pe_str pa_nil)))) (pa_cons (pe_ix ix_tup (pv 2) pe_int (fun _ _ => rfl)) pa_nil)))
          (pss_cons (ps_if (pt_cmpR op_eq (pe_ix ix_tup (pv 8) (pv 15) (fun _ _ => rfl)) pe_int (nomark _))
           (pss_one (ps_ret pe_non))
           pss_nil)
          (pss_cons (ps_set (i := 8) sc__law_step.nd rfl (.inl rfl) (pe_fn g__law_more (hr.mono (by decide)) (by rfl) (pa_cons (pv 8) (pa_cons (pv 15) (pa_cons (pe_un un_neg pe_int) pa_nil)))))
          (pss_cons (ps_if (pt_cmpR op_eq (pv 14) pe_str (nomark _))
           (pss_one (ps_ret (pe_lst (pa_cons (pe_tup (pa_cons (pe_tup (pa_cons (pv 3) (pa_cons (pv 4) pa_nil))) (pa_cons (pe_tup (pa_cons (pv 5) (pa_cons (pv 6) (pa_cons (pv 7) pa_nil)))) (pa_cons (pv 8) (pa_cons (pv 9) pa_nil))))) (pa_cons pe_non pa_nil)))))
           pss_nil)
          (pss_cons (ps_par3 (i := 16) (j := 17) (l := 18) rfl sc__law_step.nd rfl rfl rfl (by decide) (by decide) (by decide) rfl rfl rfl (pa_cons (pe_ifExp (pt_cmpR op_eq (pv 15) pe_int (nomark _)) (pv 3) (pe_op op_sub (pv 15) pe_int)) (pa_cons (pe_ifExp (pt_cmpR op_eq (pv 15) pe_int (nomark _)) pe_str pe_str) (pa_cons pe_non pa_nil))) (by rfl))
          (pss_cons (ps_if (pt_cmpR op_eq (pv 16) (pv 5) (nomark _))
           (pss_one (ps_set (i := 6) sc__law_step.nd rfl (.inl rfl) pe_non))
           (pss_cons (ps_set (i := 19) sc__law_step.nd rfl (.inl rfl) (pe_ifExp (PW.pt (pw_and (pt_cmp (pc_notN (pv 6)) rfl) (pw_and1 (pt_cmpR op_eq (pe_ix ix_tup (pv 6) pe_int (fun _ _ => rfl)) (pv 17) (nomark _))))) (pe_op op_add (pe_ix ix_tup (pv 6) pe_int (fun _ _ => rfl)) pe_int) pe_int))
            (pss_cons (ps_set (i := 6) sc__law_step.nd rfl (.inl rfl) (pe_tup (pa_cons (pv 17) (pa_cons (pv 19) pa_nil))))
            (pss_one (ps_if (pt_cmpR op_ge (pv 19) (pv 12) (nomark _))
             (pss_cons (ps_set (i := 18) sc__law_step.nd rfl (.inl rfl) (pe_ifExp (pt_cmpR op_eq (pv 17) pe_str (nomark _)) pe_str (pe_ifExp (pt_val (pv 7)) pe_str pe_non)))
              (pss_one (ps_par3 (i := 5) (j := 6) (l := 7) rfl sc__law_step.nd rfl rfl rfl (by decide) (by decide) (by decide) rfl rfl rfl (pa_cons (pv 16) (pa_cons pe_non (pa_cons (pe_or (pv 7) (pe_one (pe_cmpR op_eq (pv 17) pe_str (nomark _)))) pa_nil))) (by rfl))))
             pss_nil)))))
          (pss_cons (ps_if (PW.pt (pw_and (pt_cmpR op_eq (pv 5) (pv 16) (nomark _)) (pw_and1 (pt_cmpR op_lt (pe_callB (cr_sumT rfl) (by rfl) B.sum (by decide +kernel) (pa_cons (pv 9) pa_nil)) (pv 11) (nomark _)))))
           (pss_one (ps_set (i := 9) sc__law_step.nd rfl (.inl rfl) (pe_fn g__law_more (hr.mono (by decide)) (by rfl) (pa_cons (pv 9) (pa_cons (pv 16) (pa_cons pe_int pa_nil))))))
           pss_nil)
          (pss_one (ps_ret (pe_lst (pa_cons (pe_tup (pa_cons (pe_tup (pa_cons (pv 3) (pa_cons (pv 4) pa_nil))) (pa_cons (pe_tup (pa_cons (pv 5) (pa_cons (pv 6) (pa_cons (pv 7) pa_nil)))) (pa_cons (pv 8) (pa_cons (pv 9) pa_nil))))) (pa_cons (pv 18) pa_nil))))))))))))
         pss_nil)
        (pss_cons (ps_if (pt_cmpR op_eq (pe_ix ix_tup (pv 9) (pe_ix ix_tup (pv 2) pe_int (fun _ _ => rfl)) (fun _ _ => rfl)) pe_int (nomark _))
         (pss_one (ps_ret pe_non))
         pss_nil)
        (pss_cons (ps_set (i := 9) sc__law_step.nd rfl (.inl rfl) (pe_fn g__law_more (hr.mono (by decide)) (by rfl) (pa_cons (pv 9) (pa_cons (pe_ix ix_tup (pv 2) pe_int (fun _ _ => rfl)) (pa_cons (pe_un un_neg pe_int) pa_nil)))))
        (pss_cons (ps_if (PW.pt (pw_or (pt_cmpR op_eq (pv 14) pe_str (nomark _)) (pw_or1 (pt_cmpR op_ne (pe_ix ix_tup (pv 2) pe_int (fun _ _ => rfl)) (pv 3) (nomark _)))))
         (pss_one (ps_ret (pe_lst (pa_cons (pe_tup (pa_cons (pe_tup (pa_cons (pv 3) (pa_cons (pv 4) pa_nil))) (pa_cons (pe_tup (pa_cons (pv 5) (pa_cons (pv 6) (pa_cons (pv 7) pa_nil)))) (pa_cons (pv 8) (pa_cons (pv 9) pa_nil))))) (pa_cons pe_non pa_nil)))))
         pss_nil)
        (pss_cons (ps_if (pt_cmpR op_lt (pe_op op_add (pv 4) pe_int) (pv 13) (nomark _))
         (pss_one (ps_ret (pe_lst (pa_cons (pe_tup (pa_cons (pe_tup (pa_cons (pv 3) (pa_cons (pe_op op_add (pv 4) pe_int) pa_nil))) (pa_cons (pe_tup (pa_cons (pv 5) (pa_cons (pv 6) (pa_cons (pv 7) pa_nil)))) (pa_cons (pv 8) (pa_cons (pv 9) pa_nil))))) (pa_cons pe_non pa_nil)))))
         pss_nil)
        (pss_cons (ps_set (i := 6) sc__law_step.nd rfl (.inl rfl) (pe_ifExp (pt_cmp (pc_isN (pv 6)) rfl) (pv 6) (pe_tup (pa_cons pe_str (pa_cons (pe_ix ix_tup (pv 6) pe_int (fun _ _ => rfl)) pa_nil)))))
        (pss_cons (ps_set (i := 8) sc__law_step.nd rfl (.inl rfl) (pe_fn g__law_more (hr.mono (by decide)) (by rfl) (pa_cons (pe_tup (pa_cons pe_int (pa_cons (pe_ix ix_tup (pv 8) pe_int (fun _ _ => rfl)) (pa_cons (pe_ix ix_tup (pv 8) pe_int (fun _ _ => rfl)) pa_nil)))) (pa_cons (pe_op op_add pe_int (pv 3)) (pa_cons (pe_ix ix_tup (pv 8) pe_int (fun _ _ => rfl)) pa_nil)))))
        (pss_one (ps_ret (pe_lst (pa_cons (pe_tup (pa_cons (pe_tup (pa_cons (pe_op op_sub pe_int (pv 3)) (pa_cons pe_int pa_nil))) (pa_cons (pe_tup (pa_cons (pv 5) (pa_cons (pv 6) (pa_cons pe_bl pa_nil)))) (pa_cons (pv 8) (pa_cons (pv 9) pa_nil))))) (pa_cons (pe_ifExp (pt_val (pv 7)) pe_non pe_str) pa_nil)))))))))))))))), ?_⟩
    have E0 := env0D (N := ["_law_link_here", "_law_contents_there", "_law_event", "_law_bit", "_law_heard", "_law_own", "_law_lot", "_law_done", "_law_there", "_law_back", "_law_places", "_law_room", "_law_copies", "_law_wanted", "_law_kind", "_law_at", "_law_borne", "_law_sort", "_law_wrong", "_law_many"]) t
    suffices hs : RunO K _ (ctx0 20 [dL L, dC c, dEv e]) ((mStep L c e).map fun x => [dC x.1, dW x.2]) by
      cases hm : mStep L c e with
      | none =>
        rw [hm] at hs q
        exact hs _ _ H E0 fun v H' s' tv => by rw [tv.none_inv]; exact q H' s'
      | some x =>
        rw [hm] at hs q
        exact hs _ _ H E0 fun p xs H' hp s' hl tx => q p xs H' hp s' hl tx
    have vT : ∀ {Γ : Cty} {i : Nat} (d : PyData), Γ[i]? = some (some (.dat d)) → EvD K (tVar i) Γ d := fun d h => ed_var h
    have pre : ∀ {Z : TS} {r : Option (List PyData)} (kd : Str) (rest : List PyData), dEv e = .tuple (.str kd :: rest) →
        RunO K Z (GS L (dC c) (dEv e) c.bit c.heard c.own c.lot c.done (dT c.n c.z c.o) (dB c.b0 c.b1) kd none none none none none) r →
        RunO K (tSeq (tAsg (tVar 1) (gTup K 4 (gCons (gTup K 2 (gCons (gName 3) (gCons (gName 4) gNil))) (gCons (gTup K 3 (gCons (gName 5) (gCons (gName 6) (gCons (gName 7) gNil)))) (gCons (gName 8) (gCons (gName 9) gNil))))))
          (tSeq (tAsg (tVar 0) (gTup K 4 (gCons (gName 10) (gCons (gName 11) (gCons (gName 12) (gCons (gName 13) gNil)))))) (tSeq (tAsg (tOp (rIxT K) (tVar 2) (tC (.int 0))) (gName 14)) Z))) (ctx0 20 [dL L, dC c, dEv e]) r := by
      intro Z r kd rest he2 hz
      refine ro_seq (rf_tg (vT (dC c) rfl) (tg_tup (tgs_cons (tg_tup (tgs_cons tg_name (tgs_cons tg_name tgs_nil)) rfl) (tgs_cons (tg_tup (tgs_cons tg_name (tgs_cons tg_name (tgs_cons tg_name tgs_nil))) rfl) (tgs_cons tg_name (tgs_cons tg_name tgs_nil)))) rfl)) ?_
      refine ro_seq (rf_tg (vT (dL L) rfl) (tg_tup (tgs_cons tg_name (tgs_cons tg_name (tgs_cons tg_name (tgs_cons tg_name tgs_nil)))) rfl)) ?_
      refine ro_seq (rf_asg (d := .str kd) (ed_ix (by rw [← he2]; exact vT (dEv e) rfl) ed_int (by decide) rfl)) hz
    have isK : ∀ {Γ : Cty} {a b : Str}, Γ[14]? = some (some (.dat (.str a))) → EvB K (tTest (tOp rEq (tVar 14) (tC (.str b)))) Γ (decide (a = b)) := fun h => eb_test (ed_eqS (ed_var h) ed_str)
    have vI : ∀ {Γ : Cty} {i : Nat} (n : Nat), Γ[i]? = some (some (.dat (.int n))) → EvD K (tVar i) Γ (.int n) := fun d h => ed_var h
    cases e with
    | send =>
      refine pre "send" [] rfl (ro_sT ((isK rfl).is (by decide +kernel)) ?_)
      have hc := eb_test (ed_ltN (ed_sum3 (n := c.n) (z := c.z) (o := c.o) (ed_var (K := K) (Γ := GS L (dC c) (dEv .send) c.bit c.heard c.own c.lot c.done (dT c.n c.z c.o) (dB c.b0 c.b1) "send" none none none none none) (i := 8) rfl)) (vI (i := 10) L.c rfl))
      by_cases hz : c.n + c.z + c.o < L.c
      · rw [decide_eq_true hz] at hc
        have e1 : mStep L c .send = some (⟨c.bit, c.heard, c.own, c.lot, c.done, c.n + 1, c.z, c.o, c.b0, c.b1⟩, none) := if_pos hz
        rw [e1]
        exact ro_some (el_ifT (b := true) hc (el_out (ct := ⟨c.bit, c.heard, c.own, c.lot, c.done, c.n + 1, c.z, c.o, c.b0, c.b1⟩) (wr := none) (ed_var rfl) (ed_var rfl) (ed_var rfl) (ed_var rfl) (ed_var rfl)
          (EvD.is (ed_more (ns := [(c.n : Int), c.z, c.o]) (p := 0) (m := 1) (ed_var rfl) ed_int ed_int (by simp)) (by rw [more3_send]; rfl)) (ed_var rfl) ed_non))
      · rw [decide_eq_false hz] at hc
        have e1 : mStep L c .send = none := if_neg hz
        rw [e1]
        exact ro_none (ed_ifF hc ed_non)
    | drop i =>
      refine pre "drop" [.str (placeS i)] rfl (ro_skip ((isK rfl).is (by decide +kernel)) (ro_sT ?_ ?_))
      · exact EvB.is (eb_test (ed_inL (x := .str "drop") (us := [.str "drop", .str "bring"]) (ed_var rfl) (el_lst (ea_cons ed_str (ea_cons ed_str ea_nil)) (by decide)) rfl rfl rfl rfl)) (by decide +kernel)
      refine ro_seq (rf_asg (d := .int i) (ed_place (el_lst (ea_cons ed_str (ea_cons ed_str (ea_cons ed_str ea_nil))) (by decide)) (ed_ix (ed_var (d := .tuple [.str "drop", .str (placeS i)]) rfl) ed_int (by decide) rfl) he)) ?_
      by_cases hz : pick3 i c.n c.z c.o = 0
      · have e1 : mStep L c (.drop i) = none := if_pos hz
        rw [e1]
        exact ro_sT (EvB.is (eb_test (ed_eqN (b := 0) (ed_pick (ed_var rfl) (ed_var rfl) (get3 i c.n c.z c.o he)) ed_int)) (decide_eq_true hz)) (ro_none ed_non)
      · have e1 : mStep L c (.drop i) = some (⟨c.bit, c.heard, c.own, c.lot, c.done, subAt 0 i c.n, subAt 1 i c.z, subAt 2 i c.o, c.b0, c.b1⟩, none) := if_neg hz
        rw [e1]
        refine ro_skip (EvB.is (eb_test (ed_eqN (b := 0) (ed_pick (ed_var rfl) (ed_var rfl) (get3 i c.n c.z c.o he)) ed_int)) (decide_eq_false hz)) ?_
        refine ro_seq (rf_asg (EvD.is (ed_more (ns := [(c.n : Int), c.z, c.o]) (p := i) (m := -1) (ed_var rfl) (ed_var rfl) (ed_neg ed_int) (by simp)) (by rw [more3_sub i c.n c.z c.o he hz]))) ?_
        refine ro_sT ((isK rfl).is (by decide +kernel)) ?_
        exact ro_some (el_out (ct := ⟨c.bit, c.heard, c.own, c.lot, c.done, subAt 0 i c.n, subAt 1 i c.z, subAt 2 i c.o, c.b0, c.b1⟩) (wr := none) (ed_var rfl) (ed_var rfl) (ed_var rfl) (ed_var rfl) (ed_var rfl) (ed_var rfl) (ed_var rfl) ed_non)
    | bring i =>
      refine pre "bring" [.str (placeS i)] rfl (ro_skip ((isK rfl).is (by decide +kernel)) (ro_sT ?_ ?_))
      · exact EvB.is (eb_test (ed_inL (x := .str "bring") (us := [.str "drop", .str "bring"]) (ed_var rfl) (el_lst (ea_cons ed_str (ea_cons ed_str ea_nil)) (by decide)) rfl rfl rfl rfl)) (by decide +kernel)
      refine ro_seq (rf_asg (d := .int i) (ed_place (el_lst (ea_cons ed_str (ea_cons ed_str (ea_cons ed_str ea_nil))) (by decide)) (ed_ix (ed_var (d := .tuple [.str "bring", .str (placeS i)]) rfl) ed_int (by decide) rfl) he)) ?_
      by_cases hz : pick3 i c.n c.z c.o = 0
      · have e1 : mStep L c (.bring i) = none := if_pos hz
        rw [e1]
        exact ro_sT (EvB.is (eb_test (ed_eqN (b := 0) (ed_pick (ed_var rfl) (ed_var rfl) (get3 i c.n c.z c.o he)) ed_int)) (decide_eq_true hz)) (ro_none ed_non)
      · have e1 : mStep L c (.bring i) = some (mBring L c i) := if_neg hz
        rw [e1]
        refine ro_skip (EvB.is (eb_test (ed_eqN (b := 0) (ed_pick (ed_var rfl) (ed_var rfl) (get3 i c.n c.z c.o he)) ed_int)) (decide_eq_false hz)) ?_
        refine ro_seq (rf_asg (EvD.is (ed_more (ns := [(c.n : Int), c.z, c.o]) (p := i) (m := -1) (ed_var rfl) (ed_var rfl) (ed_neg ed_int) (by simp)) (by rw [more3_sub i c.n c.z c.o he hz]))) ?_
        refine ro_skip ((isK rfl).is (by decide +kernel)) ?_
        -- borne, sort, wrong
        have he3 : i < 3 := he
        have hb2 : borneL c i < 2 := by unfold borneL; split <;> omega
        have hi0 : ∀ {Γ : Cty}, Γ[15]? = some (some (.dat (.int i))) → EvB K (tTest (tOp rEq (tVar 15) (tC (.int 0)))) Γ (decide (i = 0)) := fun h => eb_test (ed_eqN (b := 0) (ed_var h) ed_int)
        let sortS : Bool → Str := fun nw => if nw then "new" else "old"
        refine ro_seq (rf_par3 (d := .int (borneL c i)) (e := .str (sortS (decide (i = 0)))) (f := .none) (ea_cons (ed_if (hi0 rfl) (fun e => ?_) (fun e => ?_)) (ea_cons (ed_if (hi0 rfl) (fun e => ?_) (fun e => ?_)) (ea_cons ed_non ea_nil)))) ?_
        · have : borneL c i = c.bit := if_pos (of_decide_eq_true e)
          rw [this]; exact ed_var rfl
        · have h0 := of_decide_eq_false e
          have : borneL c i = i - 1 := if_neg h0
          rw [this]
          exact EvD.is (ed_II (i := i) (j := 1) (ed_var rfl) ed_int) (congrArg PyData.int (by omega))
        · rw [e]; exact ed_str
        · rw [e]; exact ed_str
        generalize hbo : borneL c i = bo at *
        generalize hnw : decide (i = 0) = nw at *
        let r := bring1 L.p c.own c.lot c.done bo nw
        -- the lot
        refine ro_seq (Γ' := GS L (dC c) (dEv (.bring i)) c.bit c.heard r.1 r.2.1 r.2.2.1 (dT (subAt 0 i c.n) (subAt 1 i c.z) (subAt 2 i c.o)) (dB c.b0 c.b1) "bring" (some (.dat (.int i))) (some (.dat (.int bo))) (some (.dat (.str (sortS nw)))) (some (.dat (dW r.2.2.2))) none) ?_ ?_
        · by_cases ho2 : bo = c.own
          · have hr' : r = (c.own, none, c.done, none) := if_pos ho2
            rw [hr']
            exact rf_is (rf_forget 19 (rf_ifT (EvB.is (eb_test (ed_eqN (a := bo) (b := c.own) (ed_var rfl) (ed_var rfl))) (decide_eq_true ho2)) (rf_asg ed_non))) rfl
          · have hmany : ∀ {Γ : Cty}, Γ[6]? = some (some (.dat (dLot c.lot))) → Γ[17]? = some (some (.dat (.str (sortS nw)))) →
                EvD K (tIf (tAnd (tB (tNotN (tVar 6))) (tTest (tOp rEq (tOp (rIxT K) (tVar 6) (tC (.int 0))) (tVar 17)))) (tOp (rI0 fun i j => .int (i + j)) (tOp (rIxT K) (tVar 6) (tC (.int 1))) (tC (.int 1))) (tC (.int 1))) Γ (.int (manyL c.lot nw : Nat)) := by
              intro Γ h6 h17
              cases hl : c.lot with
              | none =>
                rw [hl] at h6
                exact ed_ifF (eb_andF (EvB.is (eb_val (ed_notN (d := .none) (ed_var h6))) rfl)) ed_int
              | some x =>
                obtain ⟨b, k⟩ := x
                rw [hl, lot_str] at h6
                have ht := eb_andT (K := K) (Γ := Γ) (EvB.is (eb_val (ed_notN (ed_var h6))) rfl) (eb_test (ed_eqS (ed_ix (ed_var h6) (ed_int (i := 0)) (by decide) rfl) (ed_var h17)))
                by_cases hbn : b = nw
                · subst hbn
                  have : manyL (some (b, k)) b = k + 1 := if_pos rfl
                  rw [this]
                  exact ed_ifT (ht.is (by simp [sortS])) (EvD.is (ed_II (i := k) (j := 1) (ed_ix (ed_var h6) ed_int (by decide) rfl) ed_int) (congrArg PyData.int (by omega)))
                · have : manyL (some (b, k)) nw = 1 := if_neg hbn
                  rw [this]
                  exact ed_ifF (ht.is (by revert hbn; cases b <;> cases nw <;> decide +kernel)) ed_int
            refine rf_ifF (EvB.is (eb_test (ed_eqN (a := bo) (b := c.own) (ed_var rfl) (ed_var rfl))) (decide_eq_false ho2)) ?_
            refine rf_seq (rf_asg (hmany rfl rfl)) (rf_seq (rf_asg (d := dLot (some (nw, manyL c.lot nw))) ?_) ?_)
            · rw [lot_str]
              exact ed_tup (ea_cons (ed_var rfl) (ea_cons (ed_var rfl) ea_nil)) (by simp)
            · have hge : ∀ {Γ : Cty}, Γ[19]? = some (some (.dat (.int (manyL c.lot nw : Nat)))) → Γ[12]? = some (some (.dat (.int L.p))) → EvB K (tTest (tOp (rI0 fun i j => .bl (decide (j ≤ i))) (tVar 19) (tVar 12))) Γ (decide (L.p ≤ manyL c.lot nw)) := fun h1 h2 =>
                EvB.is (eb_test (ed_IB (ed_var h1) (ed_var h2))) (decide_eq_decide.mpr ⟨fun z => by omega, fun z => by omega⟩)
              by_cases hp : L.p ≤ manyL c.lot nw
              · have hr' : r = (bo, none, c.done || nw, if nw then (if c.done then some ("twice" : Str) else none) else some ("made" : Str)) := by
                  show bring1 _ _ _ _ _ _ = _
                  unfold bring1; rw [if_neg ho2, if_pos hp]
                rw [hr']
                refine rf_is (rf_forget 19 (rf_ifT ((hge rfl rfl).is (decide_eq_true hp)) (rf_seq (rf_asg (d := dW (if nw then (if c.done then some "twice" else none) else some "made")) ?_) (rf_par3 (d := .int bo) (e := .none) (f := .bool (c.done || nw)) (ea_cons (ed_var rfl) (ea_cons ed_non (ea_cons ?_ ea_nil))))))) rfl
                · have h17 := eb_test (ed_eqS (K := K) (i := sortS nw) (j := "old") (ed_var (Γ := (((GS L (dC c) (dEv (.bring i)) c.bit c.heard c.own (some (nw, manyL c.lot nw)) c.done (dT (subAt 0 i c.n) (subAt 1 i c.z) (subAt 2 i c.o)) (dB c.b0 c.b1) "bring" (some (.dat (.int i))) (some (.dat (.int bo))) (some (.dat (.str (sortS nw)))) (some (.dat .none)) (some (.dat (.int (manyL c.lot nw : Nat)))))))) (i := 17) rfl) ed_str)
                  cases nw with
                  | false => exact ed_ifT (h17.is (by decide +kernel)) ed_str
                  | true => exact ed_ifF (h17.is (by decide +kernel)) (ed_ifW (ed_var rfl))
                · exact EvD.is (ed_or (b := c.done) (c := nw) (ed_var rfl) (fun _ => EvD.is (ed_eqS (i := sortS nw) (j := "new") (ed_var rfl) ed_str) (congrArg PyData.bool (by cases nw <;> decide +kernel)))) rfl
              · have hr' : r = (c.own, some (nw, manyL c.lot nw), c.done, none) := by
                  show bring1 _ _ _ _ _ _ = _
                  unfold bring1; rw [if_neg ho2, if_neg hp]
                rw [hr']
                exact rf_is (rf_forget 19 (rf_ifF ((hge rfl rfl).is (decide_eq_false hp)) rf_next)) rfl
        · have em : mBring L c i = (⟨c.bit, c.heard, r.1, r.2.1, r.2.2.1, subAt 0 i c.n, subAt 1 i c.z, subAt 2 i c.o, if r.1 = bo ∧ c.b0 + c.b1 < L.d then addAt 0 bo c.b0 else c.b0, if r.1 = bo ∧ c.b0 + c.b1 < L.d then addAt 1 bo c.b1 else c.b1⟩, r.2.2.2) := by
            unfold mBring; rw [hbo, hnw]
          rw [em]
          refine ro_seq (Γ' := GS L (dC c) (dEv (.bring i)) c.bit c.heard r.1 r.2.1 r.2.2.1 (dT (subAt 0 i c.n) (subAt 1 i c.z) (subAt 2 i c.o)) (dB (if r.1 = bo ∧ c.b0 + c.b1 < L.d then addAt 0 bo c.b0 else c.b0) (if r.1 = bo ∧ c.b0 + c.b1 < L.d then addAt 1 bo c.b1 else c.b1)) "bring" (some (.dat (.int i))) (some (.dat (.int bo))) (some (.dat (.str (sortS nw)))) (some (.dat (dW r.2.2.2))) none) ?_ ?_
          · by_cases h1 : r.1 = bo
            · by_cases h2 : c.b0 + c.b1 < L.d
              · rw [if_pos ⟨h1, h2⟩, if_pos ⟨h1, h2⟩]
                exact rf_is (rf_ifT (eb_andT (EvB.is (eb_test (ed_eqN (a := r.1) (b := bo) (ed_var rfl) (ed_var rfl))) (decide_eq_true h1)) (EvB.is (eb_test (ed_ltN (ed_sum2 (n := c.b0) (z := c.b1) (ed_var rfl)) (vI L.d rfl))) (decide_eq_true h2)))
                  (rf_asg (EvD.is (ed_more (ns := [(c.b0 : Int), c.b1]) (p := bo) (m := 1) (ed_var rfl) (ed_var rfl) ed_int (by simp)) (by rw [more2_add bo c.b0 c.b1 hb2]; rfl)))) rfl
              · rw [if_neg (fun z => h2 z.2), if_neg (fun z => h2 z.2)]
                exact rf_ifF (eb_andT (EvB.is (eb_test (ed_eqN (a := r.1) (b := bo) (ed_var rfl) (ed_var rfl))) (decide_eq_true h1)) (EvB.is (eb_test (ed_ltN (ed_sum2 (n := c.b0) (z := c.b1) (ed_var rfl)) (vI L.d rfl))) (decide_eq_false h2))) rf_next
            · rw [if_neg (fun z => h1 z.1), if_neg (fun z => h1 z.1)]
              exact rf_ifF (eb_andF (EvB.is (eb_test (ed_eqN (a := r.1) (b := bo) (ed_var rfl) (ed_var rfl))) (decide_eq_false h1))) rf_next
          · exact ro_some (el_out (ct := ⟨c.bit, c.heard, r.1, r.2.1, r.2.2.1, subAt 0 i c.n, subAt 1 i c.z, subAt 2 i c.o, if r.1 = bo ∧ c.b0 + c.b1 < L.d then addAt 0 bo c.b0 else c.b0, if r.1 = bo ∧ c.b0 + c.b1 < L.d then addAt 1 bo c.b1 else c.b1⟩) (wr := r.2.2.2) (ed_var rfl) (ed_var rfl) (ed_var rfl) (ed_var rfl) (ed_var rfl) (ed_var rfl) (ed_var rfl) (ed_var rfl))
    | miss i =>
      refine pre "miss" [.int i] rfl (ro_skip ((isK rfl).is (by decide +kernel)) (ro_skip ?_ ?_))
      · exact EvB.is (eb_test (ed_inL (x := .str "miss") (us := [.str "drop", .str "bring"]) (ed_var rfl) (el_lst (ea_cons ed_str (ea_cons ed_str ea_nil)) (by decide)) rfl rfl rfl rfl)) (by decide +kernel)
      have vi : ∀ {Γ : Cty}, Γ[2]? = some (some (.dat (dEv (.miss i)))) → EvD K (tOp (rIxT K) (tVar 2) (tC (.int 1))) Γ (.int i) := fun h => ed_ix (ed_var h) ed_int (by decide) rfl
      by_cases hz : pick2 i c.b0 c.b1 = 0
      · have e1 : mStep L c (.miss i) = none := if_pos hz
        rw [e1]
        exact ro_sT (EvB.is (eb_test (ed_eqN (b := 0) (ed_pick (ed_var rfl) (vi rfl) (get2 i c.b0 c.b1 he)) ed_int)) (decide_eq_true hz)) (ro_none ed_non)
      · have e1 : mStep L c (.miss i) = some (mMiss c i) := if_neg hz
        rw [e1]
        refine ro_skip (EvB.is (eb_test (ed_eqN (b := 0) (ed_pick (ed_var rfl) (vi rfl) (get2 i c.b0 c.b1 he)) ed_int)) (decide_eq_false hz)) ?_
        refine ro_seq (rf_asg (EvD.is (ed_more (ns := [(c.b0 : Int), c.b1]) (p := i) (m := -1) (ed_var rfl) (vi rfl) (ed_neg ed_int) (by simp)) (by rw [more2_sub i c.b0 c.b1 he hz]))) ?_
        refine ro_sT (eb_orT ((isK rfl).is (by decide +kernel))) ?_
        exact ro_some (el_out (ct := (mMiss c i).1) (wr := none) (ed_var rfl) (ed_var rfl) (ed_var rfl) (ed_var rfl) (ed_var rfl) (ed_var rfl) (ed_var rfl) ed_non)
    | hear i =>
      refine pre "hear" [.int i] rfl (ro_skip ((isK rfl).is (by decide +kernel)) (ro_skip ?_ ?_))
      · exact EvB.is (eb_test (ed_inL (x := .str "hear") (us := [.str "drop", .str "bring"]) (ed_var rfl) (el_lst (ea_cons ed_str (ea_cons ed_str ea_nil)) (by decide)) rfl rfl rfl rfl)) (by decide +kernel)
      have vi : ∀ {Γ : Cty}, Γ[2]? = some (some (.dat (dEv (.hear i)))) → EvD K (tOp (rIxT K) (tVar 2) (tC (.int 1))) Γ (.int i) := fun h => ed_ix (ed_var h) ed_int (by decide) rfl
      by_cases hz : pick2 i c.b0 c.b1 = 0
      · have e1 : mStep L c (.hear i) = none := if_pos hz
        rw [e1]
        exact ro_sT (EvB.is (eb_test (ed_eqN (b := 0) (ed_pick (ed_var rfl) (vi rfl) (get2 i c.b0 c.b1 he)) ed_int)) (decide_eq_true hz)) (ro_none ed_non)
      · refine ro_skip (EvB.is (eb_test (ed_eqN (b := 0) (ed_pick (ed_var rfl) (vi rfl) (get2 i c.b0 c.b1 he)) ed_int)) (decide_eq_false hz)) ?_
        refine ro_seq (rf_asg (EvD.is (ed_more (ns := [(c.b0 : Int), c.b1]) (p := i) (m := -1) (ed_var rfl) (vi rfl) (ed_neg ed_int) (by simp)) (by rw [more2_sub i c.b0 c.b1 he hz]))) ?_
        by_cases hib : i = c.bit
        · have e1 : mStep L c (.hear i) = some (mHear L c i) := by
            show (if _ then _ else _) = _
            rw [if_neg hz, if_neg (fun z => z hib)]
          rw [e1]
          refine ro_skip (eb_orF ((isK rfl).is (by decide +kernel)) (EvB.is (eb_test (ed_neN (b := c.bit) (vi rfl) (ed_var rfl))) (by rw [decide_eq_true hib]; rfl))) ?_
          have hlt : ∀ {Γ : Cty}, Γ[4]? = some (some (.dat (.int c.heard))) → EvD K (tOp (rI0 fun i j => .int (i + j)) (tVar 4) (tC (.int 1))) Γ (.int (c.heard + 1 : Nat)) := fun h => EvD.is (ed_II (ed_var h) (ed_int (i := 1))) (congrArg PyData.int (by omega))
          by_cases hq : c.heard + 1 < L.q
          · have e2 : mHear L c i = (⟨c.bit, c.heard + 1, c.own, c.lot, c.done, c.n, c.z, c.o, subAt 0 i c.b0, subAt 1 i c.b1⟩, none) := if_pos hq
            rw [e2]
            refine ro_sT (EvB.is (eb_test (ed_ltN (hlt rfl) (ed_var (d := .int L.q) rfl))) (decide_eq_true hq)) ?_
            exact ro_some (el_out (ct := ⟨c.bit, c.heard + 1, c.own, c.lot, c.done, c.n, c.z, c.o, subAt 0 i c.b0, subAt 1 i c.b1⟩) (wr := none) (ed_var rfl) (hlt rfl) (ed_var rfl) (ed_var rfl) (ed_var rfl) (ed_var rfl) (ed_var rfl) ed_non)
          · have e2 : mHear L c i = _ := if_neg hq
            rw [e2]
            refine ro_skip (EvB.is (eb_test (ed_ltN (hlt rfl) (ed_var (d := .int L.q) rfl))) (decide_eq_false hq)) ?_
            refine ro_seq (rf_asg (d := dLot (c.lot.map fun x => (false, x.2))) ?_) ?_
            · cases hl : c.lot with
              | none => exact ed_ifT (EvB.is (eb_val (ed_isN (d := .none) (ed_var rfl))) rfl) (ed_var rfl)
              | some x =>
                obtain ⟨b, k⟩ := x
                have h6 : ∀ (Γ : Cty), Γ[6]? = some (some (.dat (dLot (some (b, k))))) → Γ[6]? = some (some (.dat (.tuple [.str (if b then "new" else "old"), .int k]))) := fun Γ h => by rw [h, lot_str]
                exact ed_ifF (EvB.is (eb_val (ed_isN (ed_var (h6 _ rfl)))) rfl) (ed_tup (ea_cons ed_str (ea_cons (ed_ix (ed_var (h6 _ rfl)) ed_int (by decide) rfl) ea_nil)) (by simp))
            refine ro_seq (rf_asg (EvD.is (ed_more (ns := [(0 : Int), c.z, c.o]) (p := 1 + c.bit) (m := c.n) (ed_tup (ea_cons ed_int (ea_cons (ed_ix (d := .int c.z) (ed_var (d := dT c.n c.z c.o) rfl) ed_int (by decide) rfl) (ea_cons (ed_ix (d := .int c.o) (ed_var (d := dT c.n c.z c.o) rfl) ed_int (by decide) rfl) ea_nil))) (by simp)) (ed_II (i := 1) (j := c.bit) ed_int (ed_var rfl)) (ed_ix (d := .int c.n) (ed_var (d := dT c.n c.z c.o) rfl) ed_int (by decide) rfl) (by simp)) (by rw [more3_hear c.bit c.n c.z c.o hb]))) ?_
            refine ro_some (el_out (ct := ⟨1 - c.bit, 0, c.own, c.lot.map fun x => (false, x.2), false, 0, if c.bit = 0 then c.z + c.n else c.z, if c.bit = 1 then c.o + c.n else c.o, subAt 0 i c.b0, subAt 1 i c.b1⟩) (wr := if c.done then none else some "lost") ?_ ed_int (ed_var rfl) (ed_var rfl) ed_bl (ed_var rfl) (ed_var rfl) ?_)
            · exact EvD.is (ed_II (i := 1) (j := c.bit) ed_int (ed_var rfl)) (congrArg PyData.int (by show (1 : Int) - c.bit = ((1 - c.bit : Nat) : Int); omega))
            · cases hd : c.done with
              | true => exact ed_ifT (eb_val (ed_var rfl)) ed_non
              | false => exact ed_ifF (eb_val (ed_var rfl)) ed_str
        · have e1 : mStep L c (.hear i) = some (mMiss c i) := by
            show (if _ then _ else _) = _
            rw [if_neg hz, if_pos hib]
          rw [e1]
          refine ro_sT (eb_orF ((isK rfl).is (by decide +kernel)) (EvB.is (eb_test (ed_neN (b := c.bit) (vi rfl) (ed_var rfl))) (by rw [decide_eq_false hib]; rfl))) ?_
          exact ro_some (el_out (ct := (mMiss c i).1) (wr := none) (ed_var rfl) (ed_var rfl) (ed_var rfl) (ed_var rfl) (ed_var rfl) (ed_var rfl) (ed_var rfl) ed_non)
end
end Hw

set_option Elab.async false
set_option linter.all false
set_option maxRecDepth 100000
set_option maxHeartbeats 4000000
/-! HA: slots that hold pure data or lists of pure data. -/
namespace Hw
open PySem PySem.Spec PyProof.Rows L2
inductive SV where
  | dat (d : PyData)
  | lst (ds : List PyData)
def SvOk (K : PySem.W.Frag) (H0 H : Hp) (v : V) : SV → Prop
  | .dat d => Tp K H v d
  | .lst ds => ∃ p xs, v = .ref p ∧ H0 p = none ∧ H p = some (.lst xs) ∧ TpA K H xs ds
abbrev Sty := List (Option SV)
structure EnvS (K : PySem.W.Frag) (H0 H : Hp) (σ : L2.St) (Δ : Sty) : Prop where
  s0 : Same H0 H
  len : σ.length = Δ.length
  at_ : ∀ (i : Nat) (A : SV), Δ[i]? = some (some A) → ∃ v, σ[i]? = some (some v) ∧ SvOk K H0 H v A
def pureV : Option SV → Option AV
  | some (.dat d) => some (.dat d)
  | _ => none
def pureS (Δ : Sty) : Cty := Δ.map pureV
def sty0 (n : Nat) (ds : List PyData) : Sty := ds.map (fun d => some (SV.dat d)) ++ List.replicate (n - ds.length) none
section
variable {K : PySem.W.Frag} {H0 H H' : Hp} {v : V} {d e : PyData} {ds es : List PyData} {σ : L2.St} {Δ Δ' Δ'' : Sty} {A : SV} {te ta tb : TE} {t u z : TS} {c : TT} {b : Bool} {wi : TI} {g : TG}
theorem SvOk.same (h : SvOk K H0 H v A) (s : Same H H') : SvOk K H0 H' v A := by
  cases A with
  | dat d => exact Tp.gr h s.gr
  | lst ds =>
    obtain ⟨p, xs, e1, e2, e3, e4⟩ := h
    exact ⟨p, xs, e1, e2, s _ _ e3, e4.gr s.gr⟩
theorem EnvS.same (E : EnvS K H0 H σ Δ) (s : Same H H') : EnvS K H0 H' σ Δ := ⟨E.s0.trans s, E.len, fun i A e => by
  obtain ⟨v, h1, h2⟩ := E.at_ i A e
  exact ⟨v, h1, h2.same s⟩⟩
theorem EnvS.set (E : EnvS K H0 H σ Δ) (i : Nat) (hv : SvOk K H0 H v A) : EnvS K H0 H (σ.set i (some v)) (Δ.set i (some A)) := by
  refine ⟨E.s0, by rw [List.length_set, List.length_set, E.len], fun j B e => ?_⟩
  by_cases hj : i = j
  · subst hj
    by_cases hi : i < Δ.length
    · rw [List.getElem?_set_self hi] at e
      cases e
      exact ⟨v, List.getElem?_set_self (by rw [E.len]; exact hi), hv⟩
    · rw [List.getElem?_eq_none (by simpa using hi)] at e
      cases e
  · rw [List.getElem?_set_ne hj] at e
    rw [List.getElem?_set_ne hj]
    exact E.at_ j B e
theorem EnvS.forget (E : EnvS K H0 H σ Δ) (i : Nat) : EnvS K H0 H σ (Δ.set i none) := ⟨E.s0, by rw [List.length_set]; exact E.len, fun j A e => by
  by_cases hj : i = j
  · subst hj
    by_cases hi : i < Δ.length
    · rw [List.getElem?_set_self hi] at e; cases e
    · rw [List.getElem?_eq_none (by simpa using hi)] at e; cases e
  · rw [List.getElem?_set_ne hj] at e; exact E.at_ j A e⟩
theorem EnvS.pure (E : EnvS K H0 H σ Δ) : EnvD K H σ (pureS Δ) := ⟨by unfold pureS; rw [List.length_map]; exact E.len, fun i A e => by
  unfold pureS at e
  rw [List.getElem?_map] at e
  obtain ⟨o, h1, h2⟩ := Option.map_eq_some_iff.mp e
  cases o with
  | none => cases h2
  | some B =>
    cases B with
    | dat d => cases h2; exact E.at_ i _ h1
    | lst ds => cases h2⟩
theorem env0S {vs : List V} {N : List Str} (h : TpA K H vs ds) : EnvS K H H (L2.start N vs) (sty0 N.length ds) := by
  have hl := h.length
  refine ⟨Same.refl H, by unfold L2.start sty0; simp [hl], fun i A e => ?_⟩
  unfold sty0 at e
  unfold L2.start
  by_cases hi : i < ds.length
  · rw [List.getElem?_append_left (by simpa using hi), List.getElem?_map] at e
    rw [List.getElem?_append_left (by simpa [hl] using hi), List.getElem?_map]
    obtain ⟨d, hd⟩ : ∃ d, ds[i]? = some d := ⟨ds[i], by simp [hi]⟩
    obtain ⟨v, hv, tv⟩ := h.get hd
    rw [hd] at e
    cases e
    exact ⟨v, by rw [hv]; rfl, tv⟩
  · rw [List.getElem?_append_right (by simpa using hi), List.getElem?_replicate] at e
    split at e <;> cases e
/-- a list's value, new since H0 -/
def EsL (K : PySem.W.Frag) (H0 : Hp) (te : TE) (Δ : Sty) (ds : List PyData) : Prop := ∀ σ H, EnvS K H0 H σ Δ → ∀ Q : VK, (∀ p xs H', H0 p = none → Same H H' → H' p = some (.lst xs) → TpA K H' xs ds → Q (.ref p) H') → te σ H Q
theorem EsL.is (h : EsL K H0 te Δ ds) (q : ds = es) : EsL K H0 te Δ es := q ▸ h
theorem es_var {i : Nat} (h : Δ[i]? = some (some (.lst ds))) : EsL K H0 (tVar i) Δ ds := fun σ H E Q q => by
  obtain ⟨v, h1, p, xs, rfl, h2, h3, h4⟩ := E.at_ i _ h
  exact ⟨_, h1, q p xs H h2 (Same.refl H) h3 h4⟩
theorem es_new (h : EvL K te (pureS Δ) ds) : EsL K H0 te Δ ds := fun σ H E Q q => h σ H E.pure _ fun p xs H' hp s e t => q p xs H' (E.s0.free hp) s e t
theorem es_cat (h1 : EsL K H0 ta Δ ds) (h2 : EsL K H0 tb Δ es) (hz : ds.length + es.length ≤ 100000) : EsL K H0 (tOp rCat ta tb) Δ (ds ++ es) := fun σ H E Q q =>
  h1 σ H E _ fun p xs H1 hp s1 l1 t1 => h2 σ H1 (E.same s1) _ fun r ys H2 hr s2 l2 t2 => ⟨p, r, xs, ys, rfl, rfl, s2 _ _ l1, l2,
    by rw [t1.length, t2.length]; exact Nat.le_trans hz (by decide), fun z hz2 =>
      q z _ _ ((E.s0.trans (s1.trans s2)).free hz2) ((s1.trans s2).trans (same_new hz2)) upd_same (((t1.gr s2.gr).append t2).gr (same_new hz2).gr)⟩
theorem es_if (h : EvB K c (pureS Δ) b) (h1 : b = true → EsL K H0 ta Δ ds) (h2 : b = false → EsL K H0 tb Δ ds) : EsL K H0 (tIf c ta tb) Δ ds := fun σ H E Q q =>
  h σ H E.pure _ fun H1 s1 => by
    cases b with
    | true => exact iteT (h1 rfl σ H1 (E.same s1) _ fun p xs H2 hp s2 => q p xs H2 hp (s1.trans s2))
    | false => exact iteF (h2 rfl σ H1 (E.same s1) _ fun p xs H2 hp s2 => q p xs H2 hp (s1.trans s2))
/-- statements -/
def RunS (K : PySem.W.Frag) (H0 : Hp) (t : TS) (Δ Δ' : Sty) : Prop := ∀ (D : Ends) σ H, EnvS K H0 H σ Δ → (∀ σ' H', Same H H' → EnvS K H0 H' σ' Δ' → D.nx σ' H') → t D σ H
theorem rs_next : RunS K H0 tNext Δ Δ := fun D σ H E k => k σ H (Same.refl H) E
theorem rs_is (h : RunS K H0 t Δ Δ') (e : Δ' = Δ'') : RunS K H0 t Δ Δ'' := e ▸ h
theorem rs_forget (i : Nat) (h : RunS K H0 t Δ Δ') : RunS K H0 t Δ (Δ'.set i none) := fun D σ H E k => h D σ H E fun σ' H' s E' => k σ' H' s (E'.forget i)
theorem rs_seq (h : RunS K H0 t Δ Δ') (h2 : RunS K H0 u Δ' Δ'') : RunS K H0 (tSeq t u) Δ Δ'' := fun D σ H E k =>
  h _ σ H E fun σ1 H1 s1 E1 => h2 D σ1 H1 E1 fun σ2 H2 s2 E2 => k σ2 H2 (s1.trans s2) E2
theorem rs_asgL {i : Nat} (h : EsL K H0 te Δ ds) : RunS K H0 (tAsg te (gName i)) Δ (Δ.set i (some (.lst ds))) := fun D σ H E k =>
  h σ H E _ fun p xs H1 hp s1 l1 t1 => k _ H1 s1 ((E.same s1).set (A := .lst ds) i ⟨p, xs, rfl, hp, l1, t1⟩)
theorem rs_asgD {i : Nat} (h : EvD K te (pureS Δ) d) : RunS K H0 (tAsg te (gName i)) Δ (Δ.set i (some (.dat d))) := fun D σ H E k =>
  h σ H E.pure _ fun v H1 s1 t1 => k _ H1 s1 ((E.same s1).set (A := .dat d) i t1)
/-- x, y = list, list -/
theorem rs_parL {i j : Nat} (h : EsL K H0 ta Δ ds) (h2 : EsL K H0 tb Δ es) : RunS K H0 (tPar i j (tCons ta (tCons tb tNil))) Δ ((Δ.set i (some (.lst ds))).set j (some (.lst es))) := fun D σ H E k =>
  h σ H E _ fun p xs H1 hp s1 l1 t1 => h2 σ H1 (E.same s1) _ fun r ys H2 hr s2 l2 t2 =>
    ⟨_, _, rfl, k _ H2 (s1.trans s2) (((E.same (s1.trans s2)).set (A := .lst ds) i ⟨p, xs, rfl, hp, s2 _ _ l1, t1.gr s2.gr⟩).set (A := .lst es) j ⟨r, ys, rfl, hr, l2, t2⟩)⟩
/-- targets -/
def TgS (K : PySem.W.Frag) (H0 : Hp) (g : TG) (Δ : Sty) (d : PyData) (Δ' : Sty) : Prop := ∀ v σ H, EnvS K H0 H σ Δ → Tp K H v d → ∀ Q : L2.St → Hp → Prop, (∀ σ', EnvS K H0 H σ' Δ' → Q σ' H) → g v σ H Q
def TgsS (K : PySem.W.Frag) (H0 : Hp) (g : TGs) (Δ : Sty) (ds : List PyData) (Δ' : Sty) : Prop := ∀ vs σ H, EnvS K H0 H σ Δ → TpA K H vs ds → ∀ Q : L2.St → Hp → Prop, (∀ σ', EnvS K H0 H σ' Δ' → Q σ' H) → g vs σ H Q
theorem ts_name {i : Nat} : TgS K H0 (gName i) Δ d (Δ.set i (some (.dat d))) := fun v σ H E hv Q q => q _ (E.set (A := .dat d) i hv)
theorem tss_nil : TgsS K H0 gNil Δ [] Δ := fun vs σ H E hv Q q => by cases hv; exact ⟨rfl, q σ E⟩
theorem tss_cons {gs : TGs} (h : TgS K H0 g Δ d Δ') (h2 : TgsS K H0 gs Δ' ds Δ'') : TgsS K H0 (gCons g gs) Δ (d :: ds) Δ'' := fun vs σ H E hv Q q => by
  cases hv with
  | cons h1 ht => exact ⟨_, _, rfl, h _ σ H E h1 _ fun σ1 E1 => h2 _ σ1 H E1 ht Q q⟩
theorem ts_tup {n : Nat} {gs : TGs} (h : TgsS K H0 gs Δ ds Δ') (hn : ds.length = n) : TgS K H0 (gTup K n gs) Δ (.tuple ds) Δ' := fun v σ H E hv Q q => by
  obtain ⟨a, xs, rfl, hs, ha⟩ := hv.tup_inv
  exact ⟨a, xs, rfl, hs, by rw [ha.length, hn], h xs σ H E ha Q q⟩
/-- what a for walks -/
def ItS (K : PySem.W.Frag) (H0 : Hp) (wi : TI) (Δ : Sty) (ds : List PyData) : Prop := ∀ σ H, EnvS K H0 H σ Δ → ∀ R : It → Hp → Prop,
  (∀ J H1, Same H H1 → (∃ G Y, Walk J ds.length G Y ∧ (∀ H2, Same H1 H2 → G H2) ∧ ∀ k x H2 H3, k < ds.length → Same H1 H2 → Y k H2 x H3 → Same H2 H3 ∧ ∃ d, ds[k]? = some d ∧ Tp K H3 x d) → R J H1) → wi σ H R
theorem is_pure (h : ItD K wi (pureS Δ) ds) : ItS K H0 wi Δ ds := fun σ H E R q => h σ H E.pure R q
theorem is_lst (h : EsL K H0 te Δ ds) : ItS K H0 (iList K te) Δ ds := fun σ H E R q => h σ H E _ fun p xs H1 hp s1 l1 t1 =>
  ⟨p, rfl, ⟨xs, SqL.of l1⟩, q _ H1 s1 ⟨_, _, t1.length ▸ walk_list (xs := xs), fun H2 s => s.seq (SqL.of l1), fun k x H2 H3 hk s y => by
    obtain ⟨rfl, hy⟩ := y
    obtain ⟨d, hd, td⟩ := t1.getV hy
    exact ⟨Same.refl _, d, hd, td.gr s.gr⟩⟩⟩
theorem id_lst {Γ : Cty} (h : EvL K te Γ ds) : ItD K (iList K te) Γ ds := fun σ H E R q => h σ H E _ fun p xs H1 hp s1 l1 t1 =>
  ⟨p, rfl, ⟨xs, SqL.of l1⟩, q _ H1 s1 ⟨_, _, t1.length ▸ walk_list (xs := xs), fun H2 s => s.seq (SqL.of l1), fun k x H2 H3 hk s y => by
    obtain ⟨rfl, hy⟩ := y
    obtain ⟨d, hd, td⟩ := t1.getV hy
    exact ⟨Same.refl _, d, hd, td.gr s.gr⟩⟩⟩
def rangeD (lo n : Nat) : List PyData := (List.range n).map fun i => .int ((lo + i : Nat) : Int)
theorem id_range1 {Γ : Cty} {n : Nat} (h : EvD K ta Γ (.int n)) (hn : (n : Int) < 2 ^ 62) : ItD K (iRng1 (tCons ta tNil)) Γ (rangeD 0 n) := fun σ H E R q => h σ H E _ fun v H1 s1 t1 => by
  cases t1.int_inv
  have hl : (rangeD 0 n).length = ((n : Int)).toNat := by simp [rangeD]
  refine ⟨n, rfl, by omega, hn, q _ H1 s1 ⟨_, _, by rw [hl]; exact walk_range (lo := 0) (n := ((n : Int)).toNat), fun H2 g => trivial, fun k x H2 H3 hk g y => ?_⟩⟩
  obtain ⟨rfl, rfl⟩ := y
  refine ⟨Same.refl _, _, ?_, .int _⟩
  rw [hl] at hk
  unfold rangeD
  rw [List.getElem?_map, List.getElem?_range (by simpa using hk)]
  simp
theorem id_range2 {Γ : Cty} {lo hi : Nat} (h : EvD K ta Γ (.int lo)) (h2 : EvD K tb Γ (.int hi)) (hl : (lo : Int) < 2 ^ 62) (hn : (hi : Int) < 2 ^ 62) : ItD K (iRng2 (tCons ta (tCons tb tNil))) Γ (rangeD lo (hi - lo)) := fun σ H E R q =>
  h σ H E _ fun v H1 s1 t1 => h2 σ H1 (E.gr s1.gr) _ fun u H2 s2 t2 => by
  cases t1.int_inv
  cases t2.int_inv
  have hl2 : (rangeD lo (hi - lo)).length = ((hi : Int) - lo).toNat := by simp [rangeD]
  refine ⟨lo, hi, rfl, ⟨by omega, hl, by omega, hn⟩, q _ H2 (s1.trans s2) ⟨_, _, by rw [hl2]; exact walk_range (lo := (lo : Int)) (n := ((hi : Int) - lo).toNat), fun H2 g => trivial, fun k x H2 H3 hk g y => ?_⟩⟩
  obtain ⟨rfl, rfl⟩ := y
  refine ⟨Same.refl _, _, ?_, .int _⟩
  have hk2 : k < hi - lo := by simpa [rangeD] using hk
  unfold rangeD
  rw [List.getElem?_map, List.getElem?_range hk2]
  simp
theorem rs_for {F : Nat → Sty} (hi : ItS K H0 wi (F 0) ds) (hb : ∀ k d, ds[k]? = some d → ∃ Δm, TgS K H0 g (F k) d Δm ∧ RunS K H0 t Δm (F (k + 1))) : RunS K H0 (tFor wi g t) (F 0) (F ds.length) := fun D σ H E q => by
  refine hi σ H E _ fun J H1 s1 ⟨G, Y, wk, hG, hY⟩ => ?_
  refine for_it wk (fun k σ' H' => Same H1 H' ∧ EnvS K H0 H' σ' (F k)) ⟨Same.refl _, E.same s1⟩ (fun k σ' H' _ h => hG H' h.1) ?_ (fun σ' H' h => q σ' H' (s1.trans h.1) h.2)
  rintro k x σ' H2 H3 hk ⟨s2, E2⟩ y
  obtain ⟨s3, d, hd, td⟩ := hY k x H2 H3 hk s2 y
  obtain ⟨Δm, h1, h2⟩ := hb k d hd
  exact h1 x σ' H3 (E2.same s3) td _ fun σ2 E3 => h2 _ σ2 H3 E3 fun σ3 H4 s4 E4 => ⟨s2.trans (s3.trans s4), E4⟩
/-- a for that adds to a list -/
theorem flat_take {f : PyData → List PyData} {k : Nat} (h : ds[k]? = some d) : (ds.take (k + 1)).flatMap f = (ds.take k).flatMap f ++ f d := by
  rw [List.take_add_one, h, List.flatMap_append]; simp
theorem flat_le {f : PyData → List PyData} : ∀ (ds : List PyData) (k : Nat), ((ds.take k).flatMap f).length ≤ (ds.flatMap f).length
  | [], k => by simp
  | d :: ds, 0 => by simp
  | d :: ds, k + 1 => by
    rw [List.take_succ_cons, List.flatMap_cons, List.flatMap_cons, List.length_append, List.length_append]
    have := flat_le ds k (f := f)
    omega
theorem rs_acc {F : List PyData → Sty} {f : PyData → List PyData} {acc : List PyData} (hz : acc.length + (ds.flatMap f).length ≤ 100000) (hi : ItS K H0 wi (F acc) ds)
    (hb : ∀ d a, d ∈ ds → a.length + (f d).length ≤ 100000 → ∃ Δm, TgS K H0 g (F a) d Δm ∧ RunS K H0 t Δm (F (a ++ f d))) : RunS K H0 (tFor wi g t) (F acc) (F (acc ++ ds.flatMap f)) := by
  have h := rs_for (K := K) (H0 := H0) (wi := wi) (g := g) (t := t) (ds := ds) (F := fun k => F (acc ++ (ds.take k).flatMap f)) (by simpa using hi) fun k d hd => by
    have h1 := flat_take (f := f) hd
    have h2 := flat_le (f := f) ds (k + 1)
    rw [h1, List.length_append] at h2
    obtain ⟨Δm, a1, a2⟩ := hb d (acc ++ (ds.take k).flatMap f) (List.mem_of_getElem? hd) (by rw [List.length_append]; omega)
    exact ⟨Δm, a1, by rw [h1, ← List.append_assoc]; exact a2⟩
  simpa using h
/-- bodies that hand back a list -/
def RunSL (K : PySem.W.Frag) (H0 : Hp) (t : TS) (Δ : Sty) (ds : List PyData) : Prop := ∀ (D : Ends) σ H, EnvS K H0 H σ Δ → (∀ p xs H', H0 p = none → Same H H' → H' p = some (.lst xs) → TpA K H' xs ds → D.rt (.ref p) H') → t D σ H
theorem rsl_seq (h : RunS K H0 t Δ Δ') (h2 : RunSL K H0 u Δ' ds) : RunSL K H0 (tSeq t u) Δ ds := fun D σ H E k =>
  h _ σ H E fun σ1 H1 s1 E1 => h2 D σ1 H1 E1 fun p xs H2 hp s2 => k p xs H2 hp (s1.trans s2)
theorem rsl_ret (h : EsL K H0 te Δ ds) : RunSL K H0 (tRet te) Δ ds := fun D σ H E k => h σ H E _ k
/-- tuple + tuple -/
theorem ed_catA {Γ : Cty} (h1 : EvD K ta Γ (.tuple ds)) (h2 : EvD K tb Γ (.tuple es)) (hz : ds.length + es.length ≤ 100000) : EvD K (tOp (rCatA K) ta tb) Γ (.tuple (ds ++ es)) :=
  ed_op h1 h2 fun x y H hx hy Q q => by
    obtain ⟨a, xs, rfl, hs, ha⟩ := hx.tup_inv
    obtain ⟨b, ys, rfl, hs2, ha2⟩ := hy.tup_inv
    refine ⟨a, b, xs, ys, rfl, rfl, hs, hs2, by rw [ha.length, ha2.length]; exact Nat.le_trans hz (by decide), fun e => ?_, fun _ e => ?_, fun _ _ p hp => ?_⟩
    · subst e; cases ha; exact q _ H (Same.refl H) (.tup hs2 ha2)
    · subst e; cases ha2; rw [List.append_nil] at q; exact q _ H (Same.refl H) (.tup hs ha)
    · exact q _ _ (same_new hp) (.tup (SqT.of upd_same) ((ha.append ha2).gr (same_new hp).gr))
end
/-- a def that hands back a list, by the slots -/
theorem ok_lstS {P : Program} {w : World} {K : PySem.W.Frag} {mg : Str → Option Value} {base : Heap} {x qual : Str} {st : Stmt} {f : Addr} {fd : FuncData} {N ps : List Str} {k : Nat} {R : List PyData → List PyData → Prop}
    (F : Fun K x qual st f fd) (S : FnScope N ps (defScope st)) (hlen : ∀ ds d, R ds d → ds.length = ps.length)
    (body : ∀ (cdv : Value) (A : Around) (outer : List Env) (s : Shared) (H : Hp) (E : XK), Room k (A.deeper (envOfC qual (defScope st) s.heap.objs.size f cdv)) → ∀ ds d, R ds d →
      ∃ t, PSs (cxOf CX0 P w K mg base N qual (defScope st) f cdv A outer s H E).nox (defBody st) t ∧ ∀ H0, RunSL K H0 t (sty0 N.length ds) d) : FnOk P w K mg base CX0 (k + 1) f fd ps (spL K R) := by
  refine F.ok S (fun vs H Q E h => ?_) (fun cdv A outer s H vs Q E hr h => ?_)
  · obtain ⟨ds, d, h1, h2, _⟩ := h
    rw [h1.length]; exact hlen ds d h2
  · obtain ⟨ds, d, h1, h2, q⟩ := h
    obtain ⟨t, p, r⟩ := body cdv A outer s H E hr ds d h2
    exact ⟨t, p, r H _ _ H (env0S h1) q⟩
end Hw

set_option Elab.async false
set_option linter.all false
set_option maxRecDepth 100000
set_option maxHeartbeats 4000000
/-! HB: the law's lists: events, wires, lots, all contents. -/
namespace Hw
open PySem PySem.Spec PyProof.Rows L2
def allEv : List Ev := [.send, .drop 0, .drop 1, .drop 2, .bring 0, .bring 1, .bring 2, .miss 0, .miss 1, .hear 0, .hear 1]
def smallL : List Lk := [⟨1, 1, 1, 1⟩, ⟨1, 1, 2, 1⟩, ⟨1, 1, 1, 2⟩]
def tupN (ns : List Nat) : PyData := .tuple ((ns.map fun (n : Nat) => (n : Int)).map .int)
def natsOf : PyData → List Nat
  | .tuple ds => ds.map fun | .int i => i.toNat | _ => 0
  | _ => []
theorem natsOf_tupN (ns : List Nat) : natsOf (tupN ns) = ns := by
  show List.map _ (List.map _ (List.map _ ns)) = ns
  rw [List.map_map, List.map_map]
  exact List.map_id'' (fun n => Int.toNat_natCast n) ns
def extD (d : PyData) : List PyData := (rangeD 0 (1 - (natsOf d).sum + 1)).map fun x => match d with
  | .tuple ds => .tuple (ds ++ [x])
  | _ => .none
def wiresD : Nat → List PyData
  | 0 => [.tuple []]
  | k + 1 => (wiresD k).flatMap extD
theorem wires_mem : ∀ k d, d ∈ wiresD k → ∃ ns, d = tupN ns ∧ ns.sum ≤ 1 ∧ ns.length = k
  | 0, d, h => ⟨[], by simpa [wiresD, tupN] using h, by simp, rfl⟩
  | k + 1, d, h => by
    obtain ⟨e, he, hd⟩ := List.mem_flatMap.mp h
    obtain ⟨ns, rfl, h1, h2⟩ := wires_mem k e he
    obtain ⟨x, hx, rfl⟩ := List.mem_map.mp hd
    obtain ⟨i, hi, rfl⟩ := List.mem_map.mp hx
    rw [natsOf_tupN, List.mem_range] at hi
    refine ⟨ns ++ [i], ?_, by rw [List.sum_append]; simp; omega, by simp [h2]⟩
    show PyData.tuple _ = PyData.tuple _
    simp
theorem wires_len : ∀ k, k ≤ 3 → (wiresD k).length ≤ 100 := by decide
section
variable {P : Program} {w : World} {K : PySem.W.Frag} {mg : Str → Option Value} {base : Heap} {f : Addr} {fd : FuncData}
abbrev s__law_events : Stmt := topS 44
theorem sc__law_events : FnScope ["_law_found", "_law_kind", "_law_copy"] [] (defScope s__law_events) := ⟨rfl, rfl, rfl, by decide +kernel, rfl, by decide +kernel, by decide +kernel⟩
def R_events (ds es : List PyData) : Prop := ds = [] ∧ es = allEv.map dEv
theorem ok_events (F : Fun K "_law_events" "_law_events" s__law_events f fd) (B : Bt mg) : FnOk P w K mg base CX0 1 f fd [] (spL K R_events) := by
  refine ok_lstS (N := ["_law_found", "_law_kind", "_law_copy"]) F sc__law_events (fun ds d ⟨e, _⟩ => by rw [e]; rfl) fun cdv A outer s H E hr ds d ⟨e1, e2⟩ => ?_
  subst e1 e2
  refine ⟨_, (pss_cons (ps_set (i := 0) sc__law_events.nd rfl (.inl rfl) (pe_lst (pa_cons (pe_tup (pa_cons pe_str pa_nil)) pa_nil)))
        (pss_cons (ps_for PassesOwn.never rfl (pi_list (pe_lst (pa_cons pe_str (pa_cons pe_str pa_nil)))) (pg_name (i := 1) sc__law_events.nd rfl (.inr rfl))
         (pss_one (ps_set (i := 0) sc__law_events.nd rfl (.inl rfl) (pe_op op_cat (pv 0) (pe_lc (own := [("_law_copy", 2)]) (g := gName 2) rfl sc__law_events.nd (pi_list (pe_lst (pa_cons pe_str (pa_cons pe_str (pa_cons pe_str pa_nil))))) (blkOk_by (N := ["_law_found", "_law_kind", "_law_copy"]) (sc := defScope s__law_events) (by decide +kernel)) (fun _ _ _ _ _ => (pg_name (i := 2) sc__law_events.nd rfl (.inl rfl))) (fun _ _ _ _ _ => pts_nil) (fun _ _ _ _ _ => (pe_tup (pa_cons (pv 1) (pa_cons (pv 2) pa_nil)))))))))
        (pss_one (ps_ret (pe_op op_cat (pv 0) (pe_lst (pa_cons (pe_tup (pa_cons pe_str (pa_cons pe_int pa_nil))) (pa_cons (pe_tup (pa_cons pe_str (pa_cons pe_int pa_nil))) (pa_cons (pe_tup (pa_cons pe_str (pa_cons pe_int pa_nil))) (pa_cons (pe_tup (pa_cons pe_str (pa_cons pe_int pa_nil))) pa_nil)))))))))), fun H0 => ?_⟩
  refine rsl_seq (rs_asgL (es_new (el_lst (ea_cons (ed_tup (ea_cons ed_str ea_nil) (by simp)) ea_nil) (by simp)))) ?_
  refine rsl_seq (rs_acc (F := fun a => [some (.lst a), none, none]) (f := fun d => [PyData.str "new", .str "zero", .str "one"].map fun x => .tuple [d, x]) (acc := [.tuple [.str "send"]]) (ds := [.str "drop", .str "bring"]) (by simp) (is_lst (es_new (el_lst (ea_cons ed_str (ea_cons ed_str ea_nil)) (by simp)))) fun d a hd hl => ?_) ?_
  · refine ⟨_, ts_name, rs_forget 1 (rs_asgL (es_cat (es_var rfl) (es_new (el_lcAll (vs := [2]) (Γt := fun x => (wipeG _ [2]).set 2 (some (.dat x))) (by simp) (id_lst (el_lst (ea_cons ed_str (ea_cons ed_str (ea_cons ed_str ea_nil))) (by simp))) (fun x _ => tc_name (by simp)) fun x _ => ?_)) hl))⟩
    exact ed_tup (ea_cons (ed_var rfl) (ea_cons (ed_var rfl) ea_nil)) (by simp)
  · exact rsl_ret (EsL.is (es_cat (es_var rfl) (es_new (el_lst (ea_cons (ed_tup (ea_cons ed_str (ea_cons ed_int ea_nil)) (by simp)) (ea_cons (ed_tup (ea_cons ed_str (ea_cons ed_int ea_nil)) (by simp)) (ea_cons (ed_tup (ea_cons ed_str (ea_cons ed_int ea_nil)) (by simp)) (ea_cons (ed_tup (ea_cons ed_str (ea_cons ed_int ea_nil)) (by simp)) ea_nil)))) (by simp))) (by simp)) rfl)

abbrev s__law_wires : Stmt := topS 45
theorem sc__law_wires : FnScope ["_law_size_here", "_law_places", "_law_found", "_law_turn", "_law_longer", "_law_counts", "_law_many"] ["_law_size_here", "_law_places"] (defScope s__law_wires) := ⟨rfl, rfl, rfl, by decide +kernel, rfl, by decide +kernel, by decide +kernel⟩
def R_wires (ds es : List PyData) : Prop := ∃ k : Nat, k ≤ 3 ∧ ds = [.int k, .int 1] ∧ es = wiresD k
theorem ok_wires (F : Fun K "_law_wires" "_law_wires" s__law_wires f fd) (B : Bt mg) : FnOk P w K mg base CX0 1 f fd ["_law_size_here", "_law_places"] (spL K R_wires) := by
  refine ok_lstS (N := ["_law_size_here", "_law_places", "_law_found", "_law_turn", "_law_longer", "_law_counts", "_law_many"]) F sc__law_wires (fun ds d ⟨k, _, e, _⟩ => by rw [e]; rfl) fun cdv A outer s H E hr ds d ⟨k, hk, e1, e2⟩ => ?_
  subst e1 e2
  refine ⟨_, (pss_cons (ps_set (i := 2) sc__law_wires.nd rfl (.inl rfl) (pe_lst (pa_cons (pe_tup pa_nil) pa_nil)))
        (pss_cons (ps_for PassesOwn.never rfl (pi_range1 (by rfl) B.range (pa_cons (pv 0) pa_nil)) (pg_name (i := 3) sc__law_wires.nd rfl (.inl rfl))
         (pss_cons (ps_set (i := 4) sc__law_wires.nd rfl (.inl rfl) (pe_lst pa_nil))
          (pss_cons (ps_for PassesOwn.never rfl (pi_list (pv 2)) (pg_name (i := 5) sc__law_wires.nd rfl (.inr rfl))
           (pss_one (ps_set (i := 4) sc__law_wires.nd rfl (.inl rfl) (pe_op op_cat (pv 4) (pe_lc (own := [("_law_many", 6)]) (g := gName 6) rfl sc__law_wires.nd (pi_range1 (by rfl) B.range (pa_cons (pe_op op_add (pe_op op_sub (pv 1) (pe_callB (cr_sumT rfl) (by rfl) B.sum (by decide +kernel) (pa_cons (pv 5) pa_nil))) pe_int) pa_nil)) (blkOk_by (N := ["_law_size_here", "_law_places", "_law_found", "_law_turn", "_law_longer", "_law_counts", "_law_many"]) (sc := defScope s__law_wires) (by decide +kernel)) (fun _ _ _ _ _ => (pg_name (i := 6) sc__law_wires.nd rfl (.inl rfl))) (fun _ _ _ _ _ => pts_nil) (fun _ _ _ _ _ => (pe_op (show OpR _ (binaryOp .Add) (rCatA K) from op_catA) (pv 5) (pe_tup (pa_cons (pv 6) pa_nil)))))))))
          (pss_one (ps_set (i := 2) sc__law_wires.nd rfl (.inl rfl) (pv 4))))))
        (pss_one (ps_ret (pv 2))))), fun H0 => ?_⟩
  refine rsl_seq (rs_asgL (es_new (el_lst (ea_cons (ed_tup ea_nil (by simp)) ea_nil) (by simp)))) ?_
  have hrl : (rangeD 0 k).length = k := by simp [rangeD]
  have loop := rs_for (K := K) (H0 := H0) (F := fun t => [some (.dat (.int k)), some (.dat (.int 1)), some (.lst (wiresD t)), none, none, none, none]) (ds := rangeD 0 k) (g := gName 3) (wi := iRng1 (tCons (tVar 0) tNil)) (is_pure (id_range1 (n := k) (ed_var rfl) (by omega)))
    (t := (tSeq (tAsg (tLst tNil) (gName 4)) (tSeq (tFor (iList K (tVar 2)) (gName 5) (tAsg (tOp rCat (tVar 4) (tLc (iRng1 (tCons (tOp (rI0 fun i j => .int (i + j)) (tOp (rI0 fun i j => .int (i - j)) (tVar 1) (tCB (rSumT K) (tCons (tVar 5) tNil))) (tC (.int 1))) tNil)) (gName 6) tYes (tOp (rCatA K) (tVar 5) (tTup (tCons (tVar 6) tNil))) [6])) (gName 4))) (tAsg (tVar 4) (gName 2))))) fun t d hd => ?_
  · rw [hrl] at loop
    exact rsl_seq loop (rsl_ret (es_var rfl))
  · have ht : t < k := by rw [← hrl]; exact (List.getElem?_eq_some_iff.mp hd).1
    have hw3 := wires_len (t + 1) (by omega)
    refine ⟨_, ts_name, rs_seq (rs_asgL (es_new el_nil)) (rs_seq (rs_acc (F := fun a => [some (.dat (.int k)), some (.dat (.int 1)), some (.lst (wiresD t)), some (.dat d), some (.lst a), none, none]) (f := extD) (acc := []) (ds := wiresD t) (by show 0 + (wiresD (t + 1)).length ≤ _; omega) (is_lst (es_var rfl)) fun e a he hl => ?_) (rs_forget 3 (rs_forget 4 (rs_asgL (es_var rfl)))))⟩
    obtain ⟨ns, rfl, hs, hn⟩ := wires_mem t e he
    have hr : ((1 : Int) - (ns.map fun (n : Nat) => (n : Int)).sum) + 1 = ((1 - ns.sum + 1 : Nat) : Int) := by rw [sum_nat]; omega
    refine ⟨_, ts_name, rs_forget 5 (rs_asgL (es_cat (es_var rfl) (es_new (EvL.is (el_lcAll (vs := [6]) (ds := rangeD 0 (1 - ns.sum + 1)) (e := fun x => .tuple ((ns.map fun (n : Nat) => (n : Int)).map .int ++ [x])) (Γt := fun x => (wipeG _ [6]).set 6 (some (.dat x))) (by simp [rangeD]; omega) (id_range1 (EvD.is (ed_II (i := 1 - (ns.map fun (n : Nat) => (n : Int)).sum) (j := 1) (ed_II (i := 1) (ed_var rfl) (ed_sumT (ns := ns.map fun (n : Nat) => (n : Int)) (ed_var rfl))) ed_int) (by rw [hr])) (by omega)) (fun x _ => tc_name (by simp)) fun x _ => ?_) ?_)) hl))⟩
    · exact ed_catA (ed_var rfl) (ed_tup (ea_cons (ed_var rfl) ea_nil) (by simp)) (by simp; omega)
    · unfold extD
      rw [natsOf_tupN]
      rfl

abbrev s__law_lots : Stmt := topS 46
theorem sc__law_lots : FnScope ["_law_link_here", "_law_alike", "_law_found", "_law_many"] ["_law_link_here", "_law_alike"] (defScope s__law_lots) := ⟨rfl, rfl, rfl, by decide +kernel, rfl, by decide +kernel, by decide +kernel⟩
def lotsD (L : Lk) (alike : Bool) : List PyData := ([PyData.none] ++ (rangeD 1 (L.p - 1)).map fun x => .tuple [.str "old", x]) ++ if alike then [] else (rangeD 1 (L.p - 1)).map fun x => .tuple [.str "new", x]
def R_lots (ds es : List PyData) : Prop := ∃ (L : Lk) (a : Bool), L.p ≤ 1000 ∧ ds = [dL L, .bool a] ∧ es = lotsD L a
theorem ok_lots (F : Fun K "_law_lots" "_law_lots" s__law_lots f fd) (B : Bt mg) : FnOk P w K mg base CX0 1 f fd ["_law_link_here", "_law_alike"] (spL K R_lots) := by
  refine ok_lstS (N := ["_law_link_here", "_law_alike", "_law_found", "_law_many"]) F sc__law_lots (fun ds d ⟨k, _, _, e, _⟩ => by rw [e]; rfl) fun cdv A outer s H E hr ds d ⟨L, a, hp, e1, e2⟩ => ?_
  subst e1 e2
  refine ⟨_, (pss_cons (ps_set (i := 2) sc__law_lots.nd rfl (.inl rfl) (pe_op op_cat (pe_lst (pa_cons pe_non pa_nil)) (pe_lc (own := [("_law_many", 3)]) (g := gName 3) rfl sc__law_lots.nd (pi_range2 (by rfl) B.range (pa_cons pe_int (pa_cons (pe_ix ix_tup (pv 0) pe_int (fun _ _ => rfl)) pa_nil))) (blkOk_by (N := ["_law_link_here", "_law_alike", "_law_found", "_law_many"]) (sc := defScope s__law_lots) (by decide +kernel)) (fun _ _ _ _ _ => (pg_name (i := 3) sc__law_lots.nd rfl (.inl rfl))) (fun _ _ _ _ _ => pts_nil) (fun _ _ _ _ _ => (pe_tup (pa_cons pe_str (pa_cons (pv 3) pa_nil)))))))
        (pss_one (ps_ret (pe_ifExp (pt_val (pv 1)) (pv 2) (pe_op op_cat (pv 2) (pe_lc (own := [("_law_many", 3)]) (g := gName 3) rfl sc__law_lots.nd (pi_range2 (by rfl) B.range (pa_cons pe_int (pa_cons (pe_ix ix_tup (pv 0) pe_int (fun _ _ => rfl)) pa_nil))) (blkOk_by (N := ["_law_link_here", "_law_alike", "_law_found", "_law_many"]) (sc := defScope s__law_lots) (by decide +kernel)) (fun _ _ _ _ _ => (pg_name (i := 3) sc__law_lots.nd rfl (.inl rfl))) (fun _ _ _ _ _ => pts_nil) (fun _ _ _ _ _ => (pe_tup (pa_cons pe_str (pa_cons (pv 3) pa_nil)))))))))), fun H0 => ?_⟩
  have comp : ∀ {Γ : Cty} {kd : Str} {W : TI}, Γ[0]? = some (some (.dat (dL L))) → Γ.length = 4 → EvL K (tLc (iRng2 (tCons (tC (.int 1)) (tCons (tOp (rIxT K) (tVar 0) (tC (.int 2))) tNil))) (gName 3) tYes (tTup (tCons (tC (.str kd)) (tCons (tVar 3) tNil))) [3]) Γ ((rangeD 1 (L.p - 1)).map fun x => .tuple [.str kd, x]) := by
    intro Γ kd W h0 hl4
    refine el_lcAll (vs := [3]) (Γt := fun x => (wipeG Γ [3]).set 3 (some (.dat x))) (by simp [rangeD]; omega) (id_range2 (lo := 1) (hi := L.p) ed_int (ed_ix (d := .int L.p) (ed_var (d := .tuple [.int L.c, .int L.d, .int L.p, .int L.q]) h0) ed_int (by decide) rfl) (by omega) (by omega)) (fun x _ => tc_name (by simp)) fun x _ => ?_
    exact ed_tup (ea_cons ed_str (ea_cons (ed_var (by rw [List.getElem?_set_self]; simp [wipeG]; omega)) ea_nil)) (by simp)
  have hrl : (rangeD 1 (L.p - 1)).length = L.p - 1 := by simp [rangeD]
  refine rsl_seq (rs_asgL (es_new (el_cat (el_lst (ea_cons ed_non ea_nil) (by simp)) (comp (W := iRng1 tNil) rfl rfl) (by rw [List.length_map, hrl]; simp; omega)))) (rsl_ret ?_)
  unfold lotsD
  cases a with
  | true =>
    rw [if_pos rfl, List.append_nil]
    exact es_if (b := true) (eb_val (ed_var rfl)) (fun _ => es_var rfl) (fun e => nomatch e)
  | false =>
    rw [if_neg Bool.false_ne_true]
    exact es_if (b := false) (eb_val (ed_var rfl)) (fun e => nomatch e) (fun _ => es_cat (es_var rfl) (es_new (comp (W := iRng1 tNil) rfl rfl)) (by rw [List.length_append, List.length_map, List.length_map, hrl]; simp; omega))

abbrev s__law_all : Stmt := topS 47
theorem sc__law_all : FnScope ["_law_link_here", "_law_found", "_law_hosts", "_law_bit", "_law_heard", "_law_own", "_law_lot", "_law_sender", "_law_receiver", "_law_there", "_law_back", "_law_done"] ["_law_link_here"] (defScope s__law_all) := ⟨rfl, rfl, rfl, by decide +kernel, rfl, by decide +kernel, by decide +kernel⟩
theorem rs_cl {H0 : Hp} {t : TS} {Δ Δ1 Δ' : Sty} (i : Nat) (h : RunS K H0 t Δ Δ1) (e : Δ1.set i none = Δ') : RunS K H0 t Δ Δ' := e ▸ rs_forget i h
def eqI : PyData → PyData → Bool
  | .int i, .int j => decide (i = j)
  | _, _ => false
def hostD (L : Lk) (b h o l : PyData) : List PyData := [PyData.bool false, .bool true].map fun x => .tuple [.tuple [b, h], .tuple [o, l, x]]
def bits01 : List PyData := [.int 0, .int 1]
def hosts3 (L : Lk) (b h o : PyData) : List PyData := (lotsD L (eqI b o)).flatMap fun l => hostD L b h o l
def hosts2 (L : Lk) (b h : PyData) : List PyData := bits01.flatMap fun o => hosts3 L b h o
def hosts1 (L : Lk) (b : PyData) : List PyData := (rangeD 0 L.q).flatMap fun h => hosts2 L b h
def hostsD (L : Lk) : List PyData := bits01.flatMap fun b => hosts1 L b
def all2 (d th : PyData) : List PyData := match d with
  | .tuple [s, r] => (wiresD 2).map fun bk => .tuple [s, r, th, bk]
  | _ => []
def all1 (d : PyData) : List PyData := (wiresD 3).flatMap fun th => all2 d th
def allD (L : Lk) : List PyData := (hostsD L).flatMap all1
theorem hosts_mem {L : Lk} {d : PyData} (h : d ∈ hostsD L) : ∃ s r, d = .tuple [s, r] := by
  obtain ⟨b, _, h⟩ := List.mem_flatMap.mp h
  obtain ⟨hh, _, h⟩ := List.mem_flatMap.mp h
  obtain ⟨o, _, h⟩ := List.mem_flatMap.mp h
  obtain ⟨l, _, h⟩ := List.mem_flatMap.mp h
  obtain ⟨x, _, rfl⟩ := List.mem_map.mp h
  exact ⟨_, _, rfl⟩
theorem all_len : ∀ L ∈ smallL, (hostsD L).length ≤ 1000 ∧ (allD L).length ≤ 1000 ∧ L.c = 1 ∧ L.d = 1 ∧ L.p ≤ 1000 ∧ L.q ≤ 1000 := by
  intro L h
  simp only [smallL, List.mem_cons, List.not_mem_nil, or_false] at h
  rcases h with rfl | rfl | rfl <;> decide +kernel
def R_all (ds es : List PyData) : Prop := ∃ L : Lk, L ∈ smallL ∧ ds = [dL L] ∧ es = allD L
theorem ok_all (F : Fun K "_law_all" "_law_all" s__law_all f fd) (B : Bt mg) (g__law_lots : Fn P w K mg base 1 "_law_lots" ["_law_link_here", "_law_alike"] (spL K R_lots)) (g__law_wires : Fn P w K mg base 1 "_law_wires" ["_law_size_here", "_law_places"] (spL K R_wires)) :
    FnOk P w K mg base CX0 2 f fd ["_law_link_here"] (spL K R_all) := by
  refine ok_lstS (N := ["_law_link_here", "_law_found", "_law_hosts", "_law_bit", "_law_heard", "_law_own", "_law_lot", "_law_sender", "_law_receiver", "_law_there", "_law_back", "_law_done"]) F sc__law_all (fun ds d ⟨_, _, e, _⟩ => by rw [e]; rfl) fun cdv A outer s H E hr ds d ⟨L, hL, e1, e2⟩ => ?_
  subst e1 e2
  obtain ⟨z1, z2, hc, hd, hp, hq⟩ := all_len L hL
  refine ⟨_, (pss_cons (ps_par (i := 1) (j := 2) rfl sc__law_all.nd rfl rfl (by decide) rfl rfl (pa_cons (pe_lst pa_nil) (pa_cons (pe_lst pa_nil) pa_nil)) (by rfl))
        (pss_cons (ps_for PassesOwn.never rfl (pi_list (pe_lst (pa_cons pe_int (pa_cons pe_int pa_nil)))) (pg_name (i := 3) sc__law_all.nd rfl (.inr rfl))
         (pss_one (ps_for PassesOwn.never rfl (pi_range1 (by rfl) B.range (pa_cons (pe_ix ix_tup (pv 0) pe_int (fun _ _ => rfl)) pa_nil)) (pg_name (i := 4) sc__law_all.nd rfl (.inr rfl))
           (pss_one (ps_for PassesOwn.never rfl (pi_list (pe_lst (pa_cons pe_int (pa_cons pe_int pa_nil)))) (pg_name (i := 5) sc__law_all.nd rfl (.inr rfl))
             (pss_one (ps_for PassesOwn.never rfl (pi_list (pe_fn g__law_lots (hr.mono (by decide)) (by rfl) (pa_cons (pv 0) (pa_cons (pe_cmpR op_eq (pv 3) (pv 5) (nomark _)) pa_nil)))) (pg_name (i := 6) sc__law_all.nd rfl (.inr rfl))
               (pss_one (ps_set (i := 2) sc__law_all.nd rfl (.inl rfl) (pe_op op_cat (pv 2) (pe_lc (own := [("_law_done", 11)]) (g := gName 11) rfl sc__law_all.nd (pi_list (pe_lst (pa_cons pe_bl (pa_cons pe_bl pa_nil)))) (blkOk_by (N := ["_law_link_here", "_law_found", "_law_hosts", "_law_bit", "_law_heard", "_law_own", "_law_lot", "_law_sender", "_law_receiver", "_law_there", "_law_back", "_law_done"]) (sc := defScope s__law_all) (by decide +kernel)) (fun _ _ _ _ _ => (pg_name (i := 11) sc__law_all.nd rfl (.inl rfl))) (fun _ _ _ _ _ => pts_nil) (fun _ _ _ _ _ => (pe_tup (pa_cons (pe_tup (pa_cons (pv 3) (pa_cons (pv 4) pa_nil))) (pa_cons (pe_tup (pa_cons (pv 5) (pa_cons (pv 6) (pa_cons (pv 11) pa_nil)))) pa_nil)))))))))))))))
        (pss_cons (ps_for PassesOwn.never rfl (pi_list (pv 2)) (pg_tup rfl (pgs_cons (pg_name (i := 7) sc__law_all.nd rfl (.inr rfl)) (pgs_cons (pg_name (i := 8) sc__law_all.nd rfl (.inr rfl)) pgs_nil)))
         (pss_one (ps_for PassesOwn.never rfl (pi_list (pe_fn g__law_wires (hr.mono (by decide)) (by rfl) (pa_cons pe_int (pa_cons (pe_ix ix_tup (pv 0) pe_int (fun _ _ => rfl)) pa_nil)))) (pg_name (i := 9) sc__law_all.nd rfl (.inr rfl))
           (pss_one (ps_set (i := 1) sc__law_all.nd rfl (.inl rfl) (pe_op op_cat (pv 1) (pe_lc (own := [("_law_back", 10)]) (g := gName 10) rfl sc__law_all.nd (pi_list (pe_fn g__law_wires (hr.mono (by decide)) (by rfl) (pa_cons pe_int (pa_cons (pe_ix ix_tup (pv 0) pe_int (fun _ _ => rfl)) pa_nil)))) (blkOk_by (N := ["_law_link_here", "_law_found", "_law_hosts", "_law_bit", "_law_heard", "_law_own", "_law_lot", "_law_sender", "_law_receiver", "_law_there", "_law_back", "_law_done"]) (sc := defScope s__law_all) (by decide +kernel)) (fun _ _ _ _ _ => (pg_name (i := 10) sc__law_all.nd rfl (.inl rfl))) (fun _ _ _ _ _ => pts_nil) (fun _ _ _ _ _ => (pe_tup (pa_cons (pv 7) (pa_cons (pv 8) (pa_cons (pv 9) (pa_cons (pv 10) pa_nil)))))))))))))
        (pss_one (ps_ret (pv 1)))))), fun H0 => ?_⟩
  have vL : ∀ {Γ : Cty}, Γ[0]? = some (some (.dat (dL L))) → EvD K (tVar 0) Γ (.tuple [.int L.c, .int L.d, .int L.p, .int L.q]) := fun h => ed_var h
  have lit : ∀ {Δ : Sty}, ItS K H0 (iList K (tLst (tCons (tC (.int 0)) (tCons (tC (.int 1)) tNil)))) Δ bits01 := fun {Δ} => is_lst (es_new (el_lst (ea_cons ed_int (ea_cons ed_int ea_nil)) (by decide)))
  have bit : ∀ {d : PyData}, d ∈ bits01 → ∃ i : Int, d = .int i := by
    intro d h
    simp only [bits01, List.mem_cons, List.not_mem_nil, or_false] at h
    rcases h with rfl | rfl <;> exact ⟨_, rfl⟩
  refine rsl_seq (rs_parL (es_new el_nil) (es_new el_nil)) (rsl_seq (Δ' := [some (.dat (dL L)), some (.lst []), some (.lst (hostsD L)), none, none, none, none, none, none, none, none, none]) ?_ (rsl_seq (Δ' := [some (.dat (dL L)), some (.lst (allD L)), some (.lst (hostsD L)), none, none, none, none, none, none, none, none, none]) ?_ (rsl_ret (es_var rfl))))
  · refine rs_acc (F := fun a => [some (.dat (dL L)), some (.lst []), some (.lst a), none, none, none, none, none, none, none, none, none]) (f := fun b => hosts1 L b) (acc := []) (ds := bits01) (by show 0 + (hostsD L).length ≤ _; omega) lit fun b a hb hl => ⟨_, ts_name, rs_cl 3 (rs_acc (F := fun a => [some (.dat (dL L)), some (.lst []), some (.lst a), some (.dat b), none, none, none, none, none, none, none, none]) (f := fun h => hosts2 L b h) (acc := a) (ds := rangeD 0 L.q) hl (is_pure (id_range1 (n := L.q) (ed_ix (vL rfl) ed_int (by decide) rfl) (by omega))) fun h a hh hl => ⟨_, ts_name, rs_cl 4 (rs_acc (F := fun a => [some (.dat (dL L)), some (.lst []), some (.lst a), some (.dat b), some (.dat h), none, none, none, none, none, none, none]) (f := fun o => hosts3 L b h o) (acc := a) (ds := bits01) hl lit fun o a ho hl => ?_) rfl⟩) rfl⟩
    obtain ⟨bi, rfl⟩ := bit hb
    obtain ⟨oi, rfl⟩ := bit ho
    refine ⟨_, ts_name, rs_cl 5 (rs_acc (F := fun a => [some (.dat (dL L)), some (.lst []), some (.lst a), some (.dat (.int bi)), some (.dat h), some (.dat (.int oi)), none, none, none, none, none, none]) (f := fun l => hostD L (.int bi) h (.int oi) l) (acc := a) (ds := lotsD L (eqI (.int bi) (.int oi))) hl
      (is_lst (es_new (el_call (ea_cons (ed_var rfl) (ea_cons (ed_eqI (i := bi) (j := oi) (ed_var rfl) (ed_var rfl)) ea_nil)) ⟨L, _, hp, rfl, rfl⟩))) fun l a hl0 hl => ⟨_, ts_name, rs_forget 6 (rs_asgL (es_cat (es_var rfl) (es_new (el_lcAll (vs := [11]) (Γt := fun x => (wipeG _ [11]).set 11 (some (.dat x))) (by simp) (id_lst (el_lst (ea_cons ed_bl (ea_cons ed_bl ea_nil)) (by simp))) (fun x _ => tc_name (by simp)) fun x _ => ?_)) hl))⟩) rfl⟩
    exact ed_tup (ea_cons (ed_tup (ea_cons (ed_var rfl) (ea_cons (ed_var rfl) ea_nil)) (by simp)) (ea_cons (ed_tup (ea_cons (ed_var rfl) (ea_cons (ed_var rfl) (ea_cons (ed_var rfl) ea_nil))) (by simp)) ea_nil)) (by simp)
  · refine rs_acc (F := fun a => [some (.dat (dL L)), some (.lst a), some (.lst (hostsD L)), none, none, none, none, none, none, none, none, none]) (f := all1) (acc := []) (ds := hostsD L) (by show 0 + (allD L).length ≤ _; omega) (is_lst (es_var rfl)) fun d a hd2 hl => ?_
    obtain ⟨s1, r1, rfl⟩ := hosts_mem hd2
    refine ⟨_, ts_tup (tss_cons ts_name (tss_cons ts_name tss_nil)) rfl, rs_cl 7 (rs_forget 8 (rs_acc (F := fun a => [some (.dat (dL L)), some (.lst a), some (.lst (hostsD L)), none, none, none, none, some (.dat s1), some (.dat r1), none, none, none]) (f := fun th => all2 (.tuple [s1, r1]) th) (acc := a) (ds := wiresD 3) hl
      (is_lst (es_new (el_call (ea_cons ed_int (ea_cons (ed_ix (d := .int 1) (vL rfl) ed_int (by decide) (by rw [hc]; rfl)) ea_nil)) ⟨3, by omega, rfl, rfl⟩))) fun th a hth hl => ⟨_, ts_name, rs_forget 9 (rs_asgL (es_cat (es_var rfl) (es_new (el_lcAll (vs := [10]) (ds := wiresD 2) (e := fun bk => .tuple [s1, r1, th, bk]) (Γt := fun x => (wipeG _ [10]).set 10 (some (.dat x))) (by have := wires_len 2 (by omega); omega)
        (id_lst (el_call (ea_cons ed_int (ea_cons (ed_ix (d := .int 1) (vL rfl) ed_int (by decide) (by rw [hd]; rfl)) ea_nil)) ⟨2, by omega, rfl, rfl⟩)) (fun x _ => tc_name (by simp)) fun x _ => ?_)) hl))⟩)) rfl⟩
    exact ed_tup (ea_cons (ed_var rfl) (ea_cons (ed_var rfl) (ea_cons (ed_var rfl) (ea_cons (ed_var rfl) ea_nil)))) (by simp)
end
end Hw

set_option Elab.async false
set_option linter.all false
set_option maxRecDepth 100000
set_option maxHeartbeats 4000000
/-! HC: all moves from a contents. -/
namespace Hw
open PySem PySem.Spec PyProof.Rows L2
section
variable {P : Program} {w : World} {K : PySem.W.Frag} {mg : Str → Option Value} {base : Heap} {f : Addr} {fd : FuncData}
def mMoves (L : Lk) (c : Ct) : List (Ev × Ct × Option Str) := allEv.filterMap fun e => (mStep L c e).map fun x => (e, x.1, x.2)
abbrev s__law_moves : Stmt := topS 51
theorem sc__law_moves : FnScope ["_law_link_here", "_law_contents_there", "_law_found", "_law_event", "_law_told"] ["_law_link_here", "_law_contents_there"] (defScope s__law_moves) := ⟨rfl, rfl, rfl, by decide +kernel, rfl, by decide +kernel, by decide +kernel⟩
def spMoves (K : PySem.W.Frag) : Sp := fun vs H Q _ => ∃ L c, TpA K H vs [dL L, dC c] ∧ c.bit ≤ 1 ∧ c.own ≤ 1 ∧ ∀ p qs H', H p = none → Same H H' → H' p = some (.lst (qs.map V.ref)) →
  Paired (fun q (m : Ev × Ct × Option Str) => ∃ xs, H' q = some (.lst xs) ∧ TpA K H' xs [dEv m.1, dC m.2.1, dW m.2.2]) qs (mMoves L c) → Q (.ref p) H'
theorem ok_moves (F : Fun K "_law_moves" "_law_moves" s__law_moves f fd) (B : Bt mg) (g__law_events : Fn P w K mg base 1 "_law_events" [] (spL K R_events))
    (g__law_step : Fn P w K mg base 2 "_law_step" ["_law_link_here", "_law_contents_there", "_law_event"] (spStep K)) :
    FnOk P w K mg base CX0 3 f fd ["_law_link_here", "_law_contents_there"] (spMoves K) := by
  refine F.ok sc__law_moves (fun vs H Q E h => ?_) (fun cdv A outer s H vs Q E hr h => ?_)
  · obtain ⟨L, c, t, _⟩ := h
    exact t.length
  · obtain ⟨L, c, t, hb, ho, q⟩ := h
    refine ⟨_, (pss_cons (ps_set (i := 2) sc__law_moves.nd rfl (.inl rfl) (pe_lst pa_nil))
        (pss_cons (ps_for PassesOwn.never rfl (pi_list (pe_fn0 g__law_events (hr.mono (by decide)) (by rfl))) (pg_name (i := 3) sc__law_moves.nd rfl (.inl rfl))
         (pss_cons (ps_set (i := 4) sc__law_moves.nd rfl (.inl rfl) (pe_fn g__law_step (hr.mono (by decide)) (by rfl) (pa_cons (pv 0) (pa_cons (pv 1) (pa_cons (pv 3) pa_nil)))))
          (pss_one (ps_if (pt_cmp (pc_notN (pv 4)) rfl)
           (pss_one (ps_expr (pe_bm PySem.F.plainAttrs_list PySem.F.slot_list_append PySem.F.type_list_append mt_append (pv 2) (pa_cons (pe_op op_cat (pe_lst (pa_cons (pv 3) pa_nil)) (pv 4)) pa_nil))))
           pss_nil))))
        (pss_one (ps_ret (pv 2))))), ?_⟩
    have E0 := env0D (N := ["_law_link_here", "_law_contents_there", "_law_found", "_law_event", "_law_told"]) t
    obtain ⟨v0, v1, rfl⟩ : ∃ v0 v1, vs = [v0, v1] := by
      cases t with
      | cons h1 t => cases t with
        | cons h2 t => cases t; exact ⟨_, _, rfl⟩
    -- found = []
    refine ⟨Nat.zero_le _, fun p hp => ?_⟩
    have sp : Same H (upd H p (.lst [])) := same_new hp
    have E1 : EnvD K (upd H p (.lst [])) [some v0, some v1, some (.ref p), none, none] [some (.dat (dL L)), some (.dat (dC c)), some (.val (.ref p)), none, none] := (E0.gr sp.gr).set (A := .val (.ref p)) 2 rfl
    -- the events
    refine ⟨[], allEv.map dEv, .nil, ⟨rfl, rfl⟩, fun pe xs H1 hpe s1 l1 t1 => ?_⟩
    have npe : p ≠ pe := ne_of_none upd_same hpe
    have hxl : xs.length = 11 := by rw [t1.length]; rfl
    let g : Ev → Option (Ev × Ct × Option Str) := fun e => (mStep L c e).map fun x => (e, x.1, x.2)
    refine ⟨pe, rfl, ⟨xs, SqL.of l1⟩, for_it (walk_list (K := K) (a := pe) (xs := xs)) (fun k σ' H' => ∃ qs o3 o4, σ' = [some v0, some v1, some (.ref p), o3, o4] ∧ Same H H' ∧ H' pe = some (.lst xs) ∧ Gr H1 H' ∧ H' p = some (.lst (qs.map V.ref)) ∧
      Paired (fun q (m : Ev × Ct × Option Str) => q ≠ p ∧ ∃ xs, H' q = some (.lst xs) ∧ TpA K H' xs [dEv m.1, dC m.2.1, dW m.2.2]) qs ((allEv.take k).filterMap g))
      ⟨[], none, none, rfl, sp.trans s1, l1, Gr.refl _, s1 _ _ upd_same, .nil⟩ (fun k σ' H' _ ⟨_, _, _, _, _, h, _⟩ => SqL.of h) ?_ ?_⟩
    · rintro k x σ' H2 H3 hk ⟨qs, o3, o4, rfl, s2, l2, g2, hpl, hpr⟩ ⟨rfl, hx⟩
      obtain ⟨d, hd, td⟩ := t1.getV hx
      rw [List.getElem?_map] at hd
      obtain ⟨e, he, rfl⟩ := Option.map_eq_some_iff.mp hd
      have td := td.gr g2
      have t2 : TpA K H3 [v0, v1] [dL L, dC c] := t.gr s2.gr
      have eok : e.Ok := by
        have := List.mem_of_getElem? he
        simp only [allEv, List.mem_cons, List.not_mem_nil, or_false] at this
        rcases this with h | h | h | h | h | h | h | h | h | h | h <;> (subst h; simp [Ev.Ok])
      have tk : (allEv.take (k + 1)).filterMap g = (allEv.take k).filterMap g ++ (g e).toList := take_filterMap g allEv k e he
      refine ⟨v0, rfl, v1, rfl, x, rfl, L, c, e, ?_, hb, ho, eok, ?_⟩
      · cases t2 with
        | cons a1 t2 => cases t2 with
          | cons a2 t2 => exact .cons a1 (.cons a2 (.cons td .nil))
      cases hm : mStep L c e with
      | none =>
        have hg : g e = none := by show (mStep L c e).map _ = none; rw [hm]; rfl
        intro H4 s4
        refine ⟨.non, rfl, false, rfl, iteF ?_⟩
        refine ⟨qs, _, _, rfl, s2.trans s4, s4 _ _ l2, g2.trans s4.gr, s4 _ _ hpl, ?_⟩
        rw [tk, hg]
        simp only [Option.toList, List.append_nil]
        exact Paired.mapP hpr fun q m ⟨h1, ys, h2, h3⟩ => ⟨h1, ys, s4 _ _ h2, h3.gr s4.gr⟩
      | some y =>
        obtain ⟨c', wr⟩ := y
        have hg : g e = some (e, c', wr) := by show (mStep L c e).map _ = _; rw [hm]; rfl
        intro q ys H4 hq s4 lq tq
        refine ⟨.ref q, rfl, true, rfl, iteT ?_⟩
        have hp4 := s4 _ _ hpl
        have hqsl : (qs.map V.ref).length ≤ 11 := by
          rw [List.length_map, Paired.length hpr]
          have h1 := List.length_filterMap_le g (allEv.take k)
          have h2 : (allEv.take k).length ≤ 11 := by rw [List.length_take]; exact Nat.min_le_right _ _
          omega
        refine ⟨.ref p, rfl, .inl ⟨rfl, _, SqL.of hp4⟩, ⟨x, rfl, (by decide : 1 ≤ sizeLine), fun r hr => ?_⟩⟩
        have sr : Same H4 (upd H4 r (.lst [x])) := same_new hr
        refine ⟨.ref q, rfl, r, q, [x], ys, rfl, rfl, upd_same, sr _ _ lq, ?_, fun z hz => ?_⟩
        · rw [tq.length]; exact (by decide : 1 + 2 ≤ sizeLine)
        have sz : Same (upd H4 r (.lst [x])) (upd (upd H4 r (.lst [x])) z (.lst ([x] ++ ys))) := same_new hz
        have s5 := sr.trans sz
        have np : p ≠ z := ne_of_none (sr _ _ hp4) hz
        refine ⟨p, _, .ref z, rfl, rfl, s5 _ _ hp4, Nat.lt_of_le_of_lt hqsl (by decide), ?_⟩
        have gp : Gr (upd (upd H4 r (.lst [x])) z (.lst ([x] ++ ys))) (upd (upd (upd H4 r (.lst [x])) z (.lst ([x] ++ ys))) p (.lst (qs.map V.ref ++ [.ref z]))) := gr_lst (s5 _ _ hp4)
        refine ⟨qs ++ [z], _, _, rfl, same_mut ((s2.trans s4).trans s5) hp, ?_, ((g2.trans s4.gr).trans s5.gr).trans gp, ?_, ?_⟩
        · rw [upd_ne npe.symm]; exact s5 _ _ (s4 _ _ l2)
        · rw [upd_same, List.map_append]; rfl
        · rw [tk, hg]
          refine paired_snoc (Paired.mapP hpr fun q m ⟨h1, ys, h2, h3⟩ => ⟨h1, ys, ?_, ((h3.gr s4.gr).gr s5.gr).gr gp⟩) ⟨np.symm, [x] ++ ys, ?_, ?_⟩
          · rw [upd_ne h1]; exact s5 _ _ (s4 _ _ h2)
          · rw [upd_ne np.symm, upd_same]
          · exact .cons (((td.gr s4.gr).gr s5.gr).gr gp) ((tq.gr s5.gr).gr gp)
    · rintro σ' H2 ⟨qs, o3, o4, rfl, s2, l2, g2, hpl, hpr⟩
      rw [hxl] at hpr
      exact ⟨_, rfl, q p qs H2 hp s2 hpl (Paired.mapP hpr fun a b h => h.2)⟩
end
end Hw

set_option Elab.async false
set_option linter.all false
set_option maxRecDepth 100000
set_option maxHeartbeats 4000000
/-! HN: dicts whose keys are tuples of any depth. -/
namespace Hw
open PySem PySem.Spec PyProof.Rows L2
mutual
def keyD : PyData → NestedKey
  | .none => .none
  | .bool b => .num (if b = true then 1 else 0)
  | .int i => .num i
  | .str x => .text x
  | .tuple ds => .tup (keyDs ds)
  | .list _ => .none
  | .dict _ => .none
def keyDs : List PyData → List NestedKey
  | [] => []
  | d :: ds => keyD d :: keyDs ds
end
section
variable {X : Cx} {pins : List (Addr × Obj)} {σ : L2.St} {H : Hp} {s : Shared}
mutual
theorem nk_is (I : Inv X pins σ H s) : ∀ (d : PyData) (v : V) (u : Value), Tp X.K H v d → RelV v u → NestedIs s.heap (keyD d) u
  | .none, _, _, t, r => by cases t; cases r; exact .none
  | .bool b, _, _, t, r => by cases t; cases r; exact .bool rfl
  | .int i, _, _, t, r => by cases t; obtain ⟨tk, rfl⟩ := r; exact .int i tk
  | .str x, _, _, t, r => by cases t; obtain ⟨tk, rfl⟩ := r; exact .text x tk
  | .list _, _, _, t, _ => by cases t
  | .dict _, _, _, t, _ => by cases t
  | .tuple ds, _, _, t, r => by
    cases t with
    | tup hs ha =>
      cases r
      obtain ⟨its, rv, ⟨o, h1, h2, n, h3⟩, _⟩ := I.tuple hs
      exact .tup h1 h2 h3 (by simpa using nks_are I ds _ its ha rv)
theorem nks_are (I : Inv X pins σ H s) : ∀ (ds : List PyData) (vs : List V) (us : List Value), TpA X.K H vs ds → Vals vs us → NestedAll s.heap (keyDs ds) us
  | [], _, _, t, r => by cases t; cases r; exact .nil
  | d :: ds, _, _, t, r => by
    cases t with
    | cons t1 t2 =>
      cases r with
      | cons r1 r2 => exact .cons (nk_is I d _ _ t1 r1) (nks_are I ds _ _ t2 r2)
end
end
/-- the tuple at a is the key k -/
def NKey (K : PySem.W.Frag) (H : Hp) (a : Addr) (k : NestedKey) : Prop := ∃ d, Tp K H (.ref a) d ∧ keyD d = k ∧ k.depth ≤ 8
theorem NKey.gr {K : PySem.W.Frag} {H H' : Hp} {a : Addr} {k : NestedKey} (h : NKey K H a k) (g : Gr H H') : NKey K H' a k := by
  obtain ⟨d, t, e⟩ := h
  exact ⟨d, t.gr g, e⟩
abbrev NEnt := NestedKey × Addr × V
def NKeys (K : PySem.W.Frag) (H : Hp) (xs : List NEnt) : Prop := ∀ x ∈ xs, NKey K H x.2.1 x.1
theorem NKeys.gr {K : PySem.W.Frag} {H H' : Hp} {xs : List NEnt} (h : NKeys K H xs) (g : Gr H H') : NKeys K H' xs := fun x hx => (h x hx).gr g
theorem NKeys.snoc {K : PySem.W.Frag} {H : Hp} {xs : List NEnt} {e : NEnt} (h : NKeys K H xs) (he : NKey K H e.2.1 e.1) : NKeys K H (xs ++ [e]) := fun x hx => by
  rcases List.mem_append.mp hx with z | z
  · exact h x z
  · rw [List.mem_singleton.mp z]; exact he
def atN (xs : List NEnt) (k : NestedKey) : Option V := (xs.find? fun x => decide (x.1 = k)).map (·.2.2)
abbrev NRel : List NEnt → List (NestedKey × Addr × Value) → Prop := Paired fun p q => p.1 = q.1 ∧ p.2.1 = q.2.1 ∧ RelV p.2.2 q.2.2
theorem NRel.val {xs : List NEnt} {ys : List (NestedKey × Addr × Value)} (r : NRel xs ys) (k : NestedKey) : RelO (atN xs k) ((atKey ys k).map (·.2)) := by
  induction r with
  | nil => exact True.intro
  | @cons p q ps qs h t ih =>
    obtain ⟨h1, h2, h3⟩ := h
    unfold atN atKey at *
    rw [List.find?_cons, List.find?_cons]
    by_cases e : p.1 = k
    · rw [decide_eq_true e, decide_eq_true (h1.symm.trans e)]; exact h3
    · rw [decide_eq_false e, decide_eq_false (fun z => e (h1.trans z))]; exact ih
def ndPhi (P : Program) (w : World) (d : Addr) (xs : List NEnt) (h : Heap) : Prop := ∃ ys, NRel xs ys ∧ ∃ o es ep, h.get? d = some o ∧ o.ExactDict ∧ o.data = .dict es ep ∧ es.toList = ys.map (entryOfKey (nestedKind P w)) ∧ (ys.map (·.1)).Nodup
/-- the dict at d -/
def ndO (P : Program) (w : World) (d : Addr) (xs : List NEnt) : HO := .ext (ndPhi P w d xs)
theorem nd_ok {P : Program} {w : World} {H : Hp} {h : Heap} {d : Addr} {xs : List NEnt} (z : ndPhi P w d xs h) : ObjOk P w H h d (ndO P w d xs) := by
  refine ⟨z, ?_, fun h1 h2 p k => ?_⟩
  · obtain ⟨_, _, o, _, _, e, _⟩ := z; exact ⟨o, e⟩
  · obtain ⟨ys, r, o, es, ep, e, q⟩ := p; exact ⟨ys, r, o, es, ep, k o e, q⟩
section
variable {X : Cx} {pins : List (Addr × Obj)} {σ : L2.St} {H : Hp} {s : Shared} {d : Addr} {xs : List NEnt}
theorem nd_of (I : Inv X pins σ H s) (e : H d = some (ndO X.prog X.w d xs)) (hk : NKeys X.K H xs) : ∃ ys, NRel xs ys ∧ s.heap.DictOfH (nestedKind X.prog X.w) d ys := by
  obtain ⟨⟨ys, r, o, es, ep, h1, h2, h3, h4, h5⟩, _⟩ := (show ObjOk X.prog X.w H s.heap d (ndO X.prog X.w d xs) from I.hok d _ e)
  refine ⟨ys, r, o, es, ep, h1, h2, h3, h4, ?_, h5⟩
  have all : ∀ {l : List NEnt} {m : List (NestedKey × Addr × Value)}, NRel l m → NKeys X.K H l → ∀ x ∈ m, (nestedKind X.prog X.w).is s.heap x.1 x.2.1 := by
    intro l m q
    induction q with
    | nil => intro _ x hx; exact nomatch hx
    | @cons p q ps qs hq t ih =>
      intro hl x hx
      rcases List.mem_cons.mp hx with z | z
      · subst z
        obtain ⟨dd, t1, t2, t3⟩ := hl p List.mem_cons_self
        rw [← hq.1, ← hq.2.1]
        exact ⟨t2 ▸ nk_is I dd _ _ t1 rfl, t3⟩
      · exact ih (fun y hy => hl y (List.mem_cons_of_mem _ hy)) x z
  exact all r hk
theorem nkey_is {a : Addr} {k : NestedKey} (I : Inv X pins σ H s) (h : NKey X.K H a k) : (nestedKind X.prog X.w).is s.heap k a := by
  obtain ⟨dd, t1, t2, t3⟩ := h
  exact ⟨t2 ▸ nk_is I dd _ _ t1 rfl, t3⟩
theorem nroom (hu : X.A.units + 64 < cLine) : (nestedKind X.prog X.w).room X.A.in1 := by
  show X.A.units + 1 + 8 < cLine
  omega
end
/-- d[k] -/
def rIxN (P : Program) (w : World) (K : PySem.W.Frag) : R2 := fun x y H Q => ∃ d xs a k v, x = .ref d ∧ y = .ref a ∧ H d = some (ndO P w d xs) ∧ NKeys K H xs ∧ NKey K H a k ∧ atN xs k = some v ∧ Q v H
theorem ix_nd {X : Cx} (hu : X.A.units + 64 < cLine) : IxR X (rIxN X.prog X.w X.K) := by
  intro value slice pins s σ H x y v u Q I rx ry h hs
  obtain ⟨d, xs, a, k, r, rfl, rfl, hd, hks, hk, hv, q⟩ := h
  obtain rfl : v = Value.ref d := rx
  obtain rfl : u = Value.ref a := ry
  obtain ⟨ys, rel, dd⟩ := nd_of I hd hks
  obtain ⟨w', hw, rw'⟩ := RelO.some_of (v := r) (o := (atKey ys k).map (·.2)) (by rw [← hv]; exact NRel.val rel k)
  obtain ⟨p, hp, rfl⟩ := Option.map_eq_some_iff.mp hw
  exact tail_any dd.typeIs slot_dict_getitem.lookup (wpAny_getItem_heap (nroom hu) (nkey_is I hk) dd hp ⟨r, H, I.tok _, rw', q⟩) hs
/-- k not in d -/
def rNinN (P : Program) (w : World) (K : PySem.W.Frag) : R2 := fun x y H Q => ∃ d xs a k, x = .ref a ∧ y = .ref d ∧ (d == sysModules) = false ∧ H d = some (ndO P w d xs) ∧ NKeys K H xs ∧ NKey K H a k ∧ Q (.bl (!(atN xs k).isSome)) H
theorem op_ninN {X : Cx} (hu : X.A.units + 64 < cLine) : OpR X (compareOp .NotIn) (rNinN X.prog X.w X.K) := by
  intro pins s σ H x y v u Q I rx ry h
  obtain ⟨d, xs, a, k, rfl, rfl, hs, hd, hks, hk, q⟩ := h
  obtain rfl : v = Value.ref a := rx
  obtain rfl : u = Value.ref d := ry
  obtain ⟨ys, rel, dd⟩ := nd_of I hd hks
  refine wpAny_notIn_heap (nroom hu) (nkey_is I hk) hs dd ⟨.bl _, H, I.tok _, rfl, ?_⟩
  have e := (NRel.val rel k).isSome_eq
  rw [Option.isSome_map] at e
  rw [← e]
  exact q
/-- d[k] = v, a new key -/
def rSetN (P : Program) (w : World) (K : PySem.W.Frag) : TSet := fun o i v H Q => ∃ d xs a k, o = .ref d ∧ i = .ref a ∧ H d = some (ndO P w d xs) ∧ NKeys K H xs ∧ NKey K H a k ∧ atN xs k = none ∧ xs.length ≤ sizeLine ∧ Q (upd H d (ndO P w d (xs ++ [(k, a, v)])))
theorem set_nd {X : Cx} (hu : X.A.units + 64 < cLine) : PSet X (rSetN X.prog X.w X.K) := by
  intro pins s σ H o i v ov iv u Q I ro ri rv h
  obtain ⟨d, xs, a, k, rfl, rfl, hd, hks, hk, hv, hz, q⟩ := h
  obtain rfl : ov = Value.ref d := ro
  obtain rfl : iv = Value.ref a := ri
  obtain ⟨ys, rel, dd⟩ := nd_of I hd hks
  have hn : atKey ys k = none := by
    have e := (NRel.val rel k).isSome_eq
    rw [Option.isSome_map, hv] at e
    cases z : atKey ys k with
    | none => rfl
    | some p => rw [z] at e; cases e
  refine wpAny_setItem_heap (hsz := by rw [← Paired.length rel]; exact hz) (nroom hu) (nkey_is I hk) dd fun h' dd' sb => ?_
  rw [storedH_new hn] at dd'
  obtain ⟨ob, es, ep, h1, h2, h3, h4, _, h5⟩ := dd'
  exact ⟨_, I.write (x := d) (e := d) (by rw [hd]; exact True.intro) (.inl rfl) (fun b ob2 hb z => (sb.2 b hb).trans z) ⟨ob, h1⟩ (nd_ok ⟨_, Paired.snoc rel ⟨rfl, rfl, rv⟩, ob, es, ep, h1, h2, h3, h4, h5⟩), q⟩
/-- {} -/
def tNewN (P : Program) (w : World) : TE := fun _ H Q => ∀ p, H p = none → (p == sysModules) = false → Q (.ref p) (upd H p (ndO P w p []))
theorem nd_empty {P : Program} {w : World} {h : Heap} : ndPhi P w h.objs.size [] (h.push { cls := .type "dict", data := .dict #[] }) :=
  ⟨[], .nil, _, #[], 0, Heap.get?_push_size _ rfl, ⟨rfl, rfl, rfl⟩, rfl, rfl, List.nodup_nil⟩
theorem not_mods {X : Cx} {pins : List (Addr × Obj)} {σ : L2.St} {H : Hp} {s : Shared} (I : Inv X pins σ H s) : (s.heap.objs.size == sysModules) = false := beq_eq_false_iff_ne.mpr (Ne.symm (Nat.ne_of_lt I.big))
theorem pe_newN {X : Cx} {pos : Pos} : PE X (.Dict [] [] pos) (tNewN X.prog X.w) := ⟨fun pins s σ H Q I h =>
  wpAny_Dict_empty ⟨.ref s.heap.objs.size, _, I.laid (a := s.heap.objs.size) (t' := s.toks) (fun _ _ q => Heap.get?_push_of_some _ q) (Nat.le_refl _) (nd_ok nd_empty), rfl, h _ (I.hok.fresh (Nat.le_refl _)) (not_mods I)⟩⟩
/-- {k: v}, one pair -/
def tOneN (P : Program) (w : World) (K : PySem.W.Frag) (tk tv : TE) : TE := fun σ H Q => ∀ p, H p = none → (p == sysModules) = false →
  tk σ (upd H p (ndO P w p [])) fun x H1 => tv σ H1 fun y H2 => ∃ a k, x = .ref a ∧ H2 p = some (ndO P w p []) ∧ NKey K H2 a k ∧ Q (.ref p) (upd H2 p (ndO P w p [(k, a, y)]))
theorem pe_oneN {X : Cx} {pos : Pos} {k v : Expr} {tk tv : TE} (hu : X.A.units + 64 < cLine) (hk : PE X k tk) (hv : PE X v tv) : PE X (.Dict [some k] [v] pos) (tOneN X.prog X.w X.K tk tv) := ⟨fun pins s σ H Q I h => by
  have room : (nestedKind X.prog X.w).room X.A := by show X.A.units + 8 < cLine; omega
  rw [arm_eval_Dict]
  have I1 : Inv X pins σ (upd H s.heap.objs.size (ndO X.prog X.w s.heap.objs.size [])) { s with heap := s.heap.push { cls := .type "dict", data := .dict #[] } } :=
    I.laid (a := s.heap.objs.size) (t' := s.toks) (fun _ _ q => Heap.get?_push_of_some _ q) (Nat.le_refl _) (nd_ok nd_empty)
  have h0 := h _ (I.hok.fresh (Nat.le_refl _)) (not_mods I)
  have hsh : ((evalEachOpt [some k] X.env).zip ((evalEach [v] X.env).map fun v => do let x ← v; standAt pos; pure x)) = ([(eval k X.env, (do let x ← eval v X.env; standAt pos; pure x))] : List (Sem Value × Sem Value)).map fun p => (some p.1, p.2) := rfl
  rw [hsh, dictDisplay_pairs _ (by simp) (by simp)]
  refine wpAny_bind (wpAny_standAt (wpAny_bind (wpAny_subDictH (knd := nestedKind X.prog X.w) room (by simp) ?_)))
  have hp := (pps_cons hk hv pps_nil (pos := pos)).run pins _ σ _ (fun ps H2 => match ps with
      | [(x, y)] => ∃ a k, x = .ref a ∧ H2 s.heap.objs.size = some (ndO X.prog X.w s.heap.objs.size []) ∧ NKey X.K H2 a k ∧ Q (.ref s.heap.objs.size) (upd H2 s.heap.objs.size (ndO X.prog X.w s.heap.objs.size [(k, a, y)]))
      | _ => False) I1 h0
  · refine thn hp fun vs s2 ⟨ps, H2, I2, rel, hm⟩ => ?_
    obtain ⟨x, y, rfl, a, k, rfl, e2, hk2, q⟩ : ∃ x y, ps = [(x, y)] ∧ ∃ a k, x = .ref a ∧ H2 s.heap.objs.size = some (ndO X.prog X.w s.heap.objs.size []) ∧ NKey X.K H2 a k ∧ Q (.ref s.heap.objs.size) (upd H2 s.heap.objs.size (ndO X.prog X.w s.heap.objs.size [(k, a, y)])) := by
      match ps, hm with
      | [(x, y)], hm => exact ⟨x, y, rfl, hm⟩
    cases rel with
    | @cons _ pr _ _ r1 r2 =>
      cases r2
      obtain ⟨pk, pv⟩ := pr
      obtain ⟨ra, ry⟩ := r1
      obtain rfl : pk = Value.ref a := ra
      obtain ⟨ys, rl, dd⟩ := nd_of I2 e2 (fun x hx => nomatch hx)
      cases rl
      refine ⟨[(k, a, pv)], ⟨rfl, rfl, nkey_is I2 hk2, True.intro⟩, dd, fun h' tk dd' sb => wpAny_pure ⟨.ref s.heap.objs.size, _, ?_, rfl, q⟩⟩
      obtain ⟨ob, es, ep, h1, h2, h3, h4, _, h5⟩ := dd'
      exact I2.write (x := s.heap.objs.size) (e := s.heap.objs.size) (by rw [e2]; exact True.intro) (.inl rfl) (fun b ob2 hb z => (sb.2 b hb).trans z) ⟨ob, h1⟩ (nd_ok ⟨[(k, a, pv)], .cons ⟨rfl, rfl, ry⟩ .nil, ob, es, ep, h1, h2, h3, h4, h5⟩)⟩
end Hw

set_option Elab.async false
set_option linter.all false
set_option maxRecDepth 100000
set_option maxHeartbeats 4000000
/-! HP: the plain law of the three small links. -/
namespace Hw
open PySem PySem.Spec PyProof.Rows L2
def codes1 : List Nat := [0, 19683, 6561, 2187, 21870, 8748, 729, 20412, 7290, 243, 19926, 6804, 81, 19764, 6642, 2268, 21951, 8829, 810, 20493, 7371, 324, 20007, 6885, 9, 19692, 6570, 2196, 21879, 8757, 738, 20421, 7299, 252, 19935, 6813, 90, 19773, 6651, 2277, 21960, 8838, 819, 20502, 7380, 333, 20016, 6894, 1, 19684, 6562, 2188, 21871, 8749, 730, 20413, 7291, 244, 19927, 6805, 82, 19765, 6643, 2269, 21952, 8830, 811, 20494, 7372, 325, 20008, 6886, 10, 19693, 6571, 2197, 21880, 8758, 739, 20422, 7300, 253, 19936, 6814, 91, 19774, 6652, 2278, 21961, 8839, 820, 20503, 7381, 334, 20017, 6895]
def kt1 : List (List (Nat × Nat × Nat)) := [[(9, 0, 0)], [(10, 0, 0), (0, 0, 0), (0, 0, 0)], [(11, 0, 0), (0, 0, 0), (48, 1, 1)], [(0, 0, 0), (25, 2, 0)], [(1, 0, 0), (25, 2, 0), (3, 0, 0), (3, 0, 0)], [(2, 0, 0), (26, 2, 0), (3, 0, 0), (51, 1, 1)], [(0, 0, 0), (2, 0, 0)], [(1, 0, 0), (1, 0, 0), (6, 0, 0), (6, 0, 0)], [(2, 0, 0), (2, 0, 0), (6, 0, 0), (54, 1, 1)], [(0, 0, 0), (2, 0, 0)], [(1, 0, 0), (1, 0, 0), (9, 0, 0), (9, 0, 0)], [(2, 0, 0), (2, 0, 0), (9, 0, 0), (54, 1, 1)], [(21, 0, 0)], [(22, 0, 0), (12, 0, 0), (12, 0, 0)], [(23, 0, 0), (12, 0, 0), (48, 0, 1)], [(12, 0, 0), (37, 2, 0)], [(13, 0, 0), (37, 2, 0), (15, 0, 0), (15, 0, 0)], [(14, 0, 0), (38, 2, 0), (15, 0, 0), (51, 0, 1)], [(12, 0, 0), (14, 0, 0)], [(13, 0, 0), (13, 0, 0), (18, 0, 0), (18, 0, 0)], [(14, 0, 0), (14, 0, 0), (18, 0, 0), (54, 0, 1)], [(12, 0, 0), (14, 0, 0)], [(13, 0, 0), (13, 0, 0), (21, 0, 0), (21, 0, 0)], [(14, 0, 0), (14, 0, 0), (21, 0, 0), (54, 0, 1)], [(33, 0, 0)], [(34, 0, 0), (24, 0, 0), (24, 0, 0)], [(35, 0, 0), (24, 0, 0), (72, 1, 1)], [(24, 0, 0), (25, 0, 0)], [(25, 0, 0), (25, 0, 0), (27, 0, 0), (27, 0, 0)], [(26, 0, 0), (26, 0, 0), (27, 0, 0), (75, 1, 1)], [(24, 0, 0), (2, 2, 0)], [(25, 0, 0), (1, 2, 0), (30, 0, 0), (30, 0, 0)], [(26, 0, 0), (2, 2, 0), (30, 0, 0), (78, 1, 1)], [(24, 0, 0), (14, 0, 0)], [(25, 0, 0), (13, 0, 0), (33, 0, 0), (33, 0, 0)], [(26, 0, 0), (14, 0, 0), (33, 0, 0), (78, 1, 1)], [(45, 0, 0)], [(46, 0, 0), (36, 0, 0), (36, 0, 0)], [(47, 0, 0), (36, 0, 0), (72, 0, 1)], [(36, 0, 0), (37, 0, 0)], [(37, 0, 0), (37, 0, 0), (39, 0, 0), (39, 0, 0)], [(38, 0, 0), (38, 0, 0), (39, 0, 0), (75, 0, 1)], [(36, 0, 0), (14, 2, 0)], [(37, 0, 0), (13, 2, 0), (42, 0, 0), (42, 0, 0)], [(38, 0, 0), (14, 2, 0), (42, 0, 0), (78, 0, 1)], [(36, 0, 0), (14, 3, 0)], [(37, 0, 0), (13, 3, 0), (45, 0, 0), (45, 0, 0)], [(38, 0, 0), (14, 3, 0), (45, 0, 0), (78, 0, 1)], [(57, 0, 0)], [(58, 0, 0), (48, 0, 0), (0, 1, 1)], [(59, 0, 0), (48, 0, 0), (48, 0, 0)], [(48, 0, 0), (73, 2, 0)], [(49, 0, 0), (73, 2, 0), (51, 0, 0), (3, 1, 1)], [(50, 0, 0), (74, 2, 0), (51, 0, 0), (51, 0, 0)], [(48, 0, 0), (50, 0, 0)], [(49, 0, 0), (49, 0, 0), (54, 0, 0), (6, 1, 1)], [(50, 0, 0), (50, 0, 0), (54, 0, 0), (54, 0, 0)], [(48, 0, 0), (85, 0, 0)], [(49, 0, 0), (85, 0, 0), (57, 0, 0), (3, 1, 1)], [(50, 0, 0), (86, 0, 0), (57, 0, 0), (57, 0, 0)], [(69, 0, 0)], [(70, 0, 0), (60, 0, 0), (0, 0, 1)], [(71, 0, 0), (60, 0, 0), (60, 0, 0)], [(60, 0, 0), (85, 2, 0)], [(61, 0, 0), (85, 2, 0), (63, 0, 0), (3, 0, 1)], [(62, 0, 0), (86, 2, 0), (63, 0, 0), (63, 0, 0)], [(60, 0, 0), (62, 0, 0)], [(61, 0, 0), (61, 0, 0), (66, 0, 0), (6, 0, 1)], [(62, 0, 0), (62, 0, 0), (66, 0, 0), (66, 0, 0)], [(60, 0, 0), (85, 3, 0)], [(61, 0, 0), (85, 3, 0), (69, 0, 0), (3, 0, 1)], [(62, 0, 0), (86, 3, 0), (69, 0, 0), (69, 0, 0)], [(81, 0, 0)], [(82, 0, 0), (72, 0, 0), (24, 1, 1)], [(83, 0, 0), (72, 0, 0), (72, 0, 0)], [(72, 0, 0), (73, 0, 0)], [(73, 0, 0), (73, 0, 0), (75, 0, 0), (27, 1, 1)], [(74, 0, 0), (74, 0, 0), (75, 0, 0), (75, 0, 0)], [(72, 0, 0), (50, 2, 0)], [(73, 0, 0), (49, 2, 0), (78, 0, 0), (30, 1, 1)], [(74, 0, 0), (50, 2, 0), (78, 0, 0), (78, 0, 0)], [(72, 0, 0), (73, 0, 0)], [(73, 0, 0), (73, 0, 0), (81, 0, 0), (27, 1, 1)], [(74, 0, 0), (74, 0, 0), (81, 0, 0), (81, 0, 0)], [(93, 0, 0)], [(94, 0, 0), (84, 0, 0), (24, 0, 1)], [(95, 0, 0), (84, 0, 0), (84, 0, 0)], [(84, 0, 0), (85, 0, 0)], [(85, 0, 0), (85, 0, 0), (87, 0, 0), (27, 0, 1)], [(86, 0, 0), (86, 0, 0), (87, 0, 0), (87, 0, 0)], [(84, 0, 0), (62, 2, 0)], [(85, 0, 0), (61, 2, 0), (90, 0, 0), (30, 0, 1)], [(86, 0, 0), (62, 2, 0), (90, 0, 0), (90, 0, 0)], [(84, 0, 0), (85, 0, 0)], [(85, 0, 0), (85, 0, 0), (93, 0, 0), (27, 0, 1)], [(86, 0, 0), (86, 0, 0), (93, 0, 0), (93, 0, 0)]]
def rk1 : List Nat := [701772976332542332533144998069513165952733909227393844420539628535469629382799127376069164662674824053865720391348885660747224355534810675937280, 396619602308001780474200962137559373348537963744350140106708318271996012697793449323573582004986939037637879024404827366927869450387575051124736, 608691028425088706326112154944016717912648771766912947383551639532431547221076360000835832706590622420824535246390758219191559, 344012667578137855123842638505014269099719119910122996091738214995556061653994530683968964007662806991729322077791294108895396, 23908506927873043729464393588571242461743545293041858479876131153749764996468596285692179287093619384403673196134468452352, 279106070129513061883046524580940226278982554266716329242881397236119490453505271081638301622139917552410258627871191455720394851392618496, 674743839487445120877688593928972800724224084043163241479552205895089977796470421851952365977265954556477440, 447465525025461260311322985497858193349312736435680076540201444177996194059605435029246481481366043979939840]
def codes2 : List Nat := [0, 19683, 6561, 2187, 21870, 8748, 729, 20412, 7290, 243, 19926, 6804, 81, 19764, 6642, 2268, 21951, 8829, 810, 20493, 7371, 324, 20007, 6885, 27, 19710, 6588, 2214, 21897, 8775, 756, 20439, 7317, 270, 19953, 6831, 108, 19791, 6669, 2295, 21978, 8856, 837, 20520, 7398, 351, 20034, 6912, 9, 19692, 6570, 2196, 21879, 8757, 738, 20421, 7299, 252, 19935, 6813, 90, 19773, 6651, 2277, 21960, 8838, 819, 20502, 7380, 333, 20016, 6894, 36, 19719, 6597, 2223, 21906, 8784, 765, 20448, 7326, 279, 19962, 6840, 117, 19800, 6678, 2304, 21987, 8865, 846, 20529, 7407, 360, 20043, 6921, 63, 19746, 6624, 2250, 21933, 8811, 792, 20475, 7353, 306, 19989, 6867, 144, 19827, 6705, 2331, 22014, 8892, 873, 20556, 7434, 387, 20070, 6948, 1, 19684, 6562, 2188, 21871, 8749, 730, 20413, 7291, 244, 19927, 6805, 82, 19765, 6643, 2269, 21952, 8830, 811, 20494, 7372, 325, 20008, 6886, 28, 19711, 6589, 2215, 21898, 8776, 757, 20440, 7318, 271, 19954, 6832, 109, 19792, 6670, 2296, 21979, 8857, 838, 20521, 7399, 352, 20035, 6913, 55, 19738, 6616, 2242, 21925, 8803, 784, 20467, 7345, 298, 19981, 6859, 136, 19819, 6697, 2323, 22006, 8884, 865, 20548, 7426, 379, 20062, 6940, 10, 19693, 6571, 2197, 21880, 8758, 739, 20422, 7300, 253, 19936, 6814, 91, 19774, 6652, 2278, 21961, 8839, 820, 20503, 7381, 334, 20017, 6895, 37, 19720, 6598, 2224, 21907, 8785, 766, 20449, 7327, 280, 19963, 6841, 118, 19801, 6679, 2305, 21988, 8866, 847, 20530, 7408, 361, 20044, 6922]
def kt2 : List (List (Nat × Nat × Nat)) := [[(9, 0, 0)], [(10, 0, 0), (0, 0, 0), (0, 0, 0)], [(11, 0, 0), (0, 0, 0), (120, 1, 1)], [(0, 0, 0), (24, 0, 0)], [(1, 0, 0), (25, 0, 0), (3, 0, 0), (3, 0, 0)], [(2, 0, 0), (26, 0, 0), (3, 0, 0), (123, 1, 1)], [(0, 0, 0), (2, 0, 0)], [(1, 0, 0), (1, 0, 0), (6, 0, 0), (6, 0, 0)], [(2, 0, 0), (2, 0, 0), (6, 0, 0), (126, 1, 1)], [(0, 0, 0), (2, 0, 0)], [(1, 0, 0), (1, 0, 0), (9, 0, 0), (9, 0, 0)], [(2, 0, 0), (2, 0, 0), (9, 0, 0), (126, 1, 1)], [(21, 0, 0)], [(22, 0, 0), (12, 0, 0), (12, 0, 0)], [(23, 0, 0), (12, 0, 0), (120, 0, 1)], [(12, 0, 0), (36, 0, 0)], [(13, 0, 0), (37, 0, 0), (15, 0, 0), (15, 0, 0)], [(14, 0, 0), (38, 0, 0), (15, 0, 0), (123, 0, 1)], [(12, 0, 0), (14, 0, 0)], [(13, 0, 0), (13, 0, 0), (18, 0, 0), (18, 0, 0)], [(14, 0, 0), (14, 0, 0), (18, 0, 0), (126, 0, 1)], [(12, 0, 0), (14, 0, 0)], [(13, 0, 0), (13, 0, 0), (21, 0, 0), (21, 0, 0)], [(14, 0, 0), (14, 0, 0), (21, 0, 0), (126, 0, 1)], [(33, 0, 0)], [(34, 0, 0), (24, 0, 0), (24, 0, 0)], [(35, 0, 0), (24, 0, 0), (144, 1, 1)], [(24, 0, 0), (49, 2, 0)], [(25, 0, 0), (49, 2, 0), (27, 0, 0), (27, 0, 0)], [(26, 0, 0), (50, 2, 0), (27, 0, 0), (147, 1, 1)], [(24, 0, 0), (2, 0, 0)], [(25, 0, 0), (1, 0, 0), (30, 0, 0), (30, 0, 0)], [(26, 0, 0), (2, 0, 0), (30, 0, 0), (150, 1, 1)], [(24, 0, 0), (2, 0, 0)], [(25, 0, 0), (1, 0, 0), (33, 0, 0), (33, 0, 0)], [(26, 0, 0), (2, 0, 0), (33, 0, 0), (150, 1, 1)], [(45, 0, 0)], [(46, 0, 0), (36, 0, 0), (36, 0, 0)], [(47, 0, 0), (36, 0, 0), (144, 0, 1)], [(36, 0, 0), (61, 2, 0)], [(37, 0, 0), (61, 2, 0), (39, 0, 0), (39, 0, 0)], [(38, 0, 0), (62, 2, 0), (39, 0, 0), (147, 0, 1)], [(36, 0, 0), (14, 0, 0)], [(37, 0, 0), (13, 0, 0), (42, 0, 0), (42, 0, 0)], [(38, 0, 0), (14, 0, 0), (42, 0, 0), (150, 0, 1)], [(36, 0, 0), (14, 0, 0)], [(37, 0, 0), (13, 0, 0), (45, 0, 0), (45, 0, 0)], [(38, 0, 0), (14, 0, 0), (45, 0, 0), (150, 0, 1)], [(57, 0, 0)], [(58, 0, 0), (48, 0, 0), (48, 0, 0)], [(59, 0, 0), (48, 0, 0), (192, 1, 1)], [(48, 0, 0), (49, 0, 0)], [(49, 0, 0), (49, 0, 0), (51, 0, 0), (51, 0, 0)], [(50, 0, 0), (50, 0, 0), (51, 0, 0), (195, 1, 1)], [(48, 0, 0), (72, 0, 0)], [(49, 0, 0), (73, 0, 0), (54, 0, 0), (54, 0, 0)], [(50, 0, 0), (74, 0, 0), (54, 0, 0), (198, 1, 1)], [(48, 0, 0), (96, 0, 0)], [(49, 0, 0), (97, 0, 0), (57, 0, 0), (57, 0, 0)], [(50, 0, 0), (98, 0, 0), (57, 0, 0), (198, 1, 1)], [(69, 0, 0)], [(70, 0, 0), (60, 0, 0), (60, 0, 0)], [(71, 0, 0), (60, 0, 0), (192, 0, 1)], [(60, 0, 0), (61, 0, 0)], [(61, 0, 0), (61, 0, 0), (63, 0, 0), (63, 0, 0)], [(62, 0, 0), (62, 0, 0), (63, 0, 0), (195, 0, 1)], [(60, 0, 0), (84, 0, 0)], [(61, 0, 0), (85, 0, 0), (66, 0, 0), (66, 0, 0)], [(62, 0, 0), (86, 0, 0), (66, 0, 0), (198, 0, 1)], [(60, 0, 0), (108, 0, 0)], [(61, 0, 0), (109, 0, 0), (69, 0, 0), (69, 0, 0)], [(62, 0, 0), (110, 0, 0), (69, 0, 0), (198, 0, 1)], [(81, 0, 0)], [(82, 0, 0), (72, 0, 0), (72, 0, 0)], [(83, 0, 0), (72, 0, 0), (216, 1, 1)], [(72, 0, 0), (49, 0, 0)], [(73, 0, 0), (49, 0, 0), (75, 0, 0), (75, 0, 0)], [(74, 0, 0), (50, 0, 0), (75, 0, 0), (219, 1, 1)], [(72, 0, 0), (2, 2, 0)], [(73, 0, 0), (1, 2, 0), (78, 0, 0), (78, 0, 0)], [(74, 0, 0), (2, 2, 0), (78, 0, 0), (222, 1, 1)], [(72, 0, 0), (96, 0, 0)], [(73, 0, 0), (97, 0, 0), (81, 0, 0), (81, 0, 0)], [(74, 0, 0), (98, 0, 0), (81, 0, 0), (222, 1, 1)], [(93, 0, 0)], [(94, 0, 0), (84, 0, 0), (84, 0, 0)], [(95, 0, 0), (84, 0, 0), (216, 0, 1)], [(84, 0, 0), (61, 0, 0)], [(85, 0, 0), (61, 0, 0), (87, 0, 0), (87, 0, 0)], [(86, 0, 0), (62, 0, 0), (87, 0, 0), (219, 0, 1)], [(84, 0, 0), (14, 2, 0)], [(85, 0, 0), (13, 2, 0), (90, 0, 0), (90, 0, 0)], [(86, 0, 0), (14, 2, 0), (90, 0, 0), (222, 0, 1)], [(84, 0, 0), (108, 0, 0)], [(85, 0, 0), (109, 0, 0), (93, 0, 0), (93, 0, 0)], [(86, 0, 0), (110, 0, 0), (93, 0, 0), (222, 0, 1)], [(105, 0, 0)], [(106, 0, 0), (96, 0, 0), (96, 0, 0)], [(107, 0, 0), (96, 0, 0), (216, 1, 1)], [(96, 0, 0), (49, 0, 0)], [(97, 0, 0), (49, 0, 0), (99, 0, 0), (99, 0, 0)], [(98, 0, 0), (50, 0, 0), (99, 0, 0), (219, 1, 1)], [(96, 0, 0), (72, 0, 0)], [(97, 0, 0), (73, 0, 0), (102, 0, 0), (102, 0, 0)], [(98, 0, 0), (74, 0, 0), (102, 0, 0), (222, 1, 1)], [(96, 0, 0), (14, 0, 0)], [(97, 0, 0), (13, 0, 0), (105, 0, 0), (105, 0, 0)], [(98, 0, 0), (14, 0, 0), (105, 0, 0), (222, 1, 1)], [(117, 0, 0)], [(118, 0, 0), (108, 0, 0), (108, 0, 0)], [(119, 0, 0), (108, 0, 0), (216, 0, 1)], [(108, 0, 0), (61, 0, 0)], [(109, 0, 0), (61, 0, 0), (111, 0, 0), (111, 0, 0)], [(110, 0, 0), (62, 0, 0), (111, 0, 0), (219, 0, 1)], [(108, 0, 0), (84, 0, 0)], [(109, 0, 0), (85, 0, 0), (114, 0, 0), (114, 0, 0)], [(110, 0, 0), (86, 0, 0), (114, 0, 0), (222, 0, 1)], [(108, 0, 0), (14, 3, 0)], [(109, 0, 0), (13, 3, 0), (117, 0, 0), (117, 0, 0)], [(110, 0, 0), (14, 3, 0), (117, 0, 0), (222, 0, 1)], [(129, 0, 0)], [(130, 0, 0), (120, 0, 0), (0, 1, 1)], [(131, 0, 0), (120, 0, 0), (120, 0, 0)], [(120, 0, 0), (144, 0, 0)], [(121, 0, 0), (145, 0, 0), (123, 0, 0), (3, 1, 1)], [(122, 0, 0), (146, 0, 0), (123, 0, 0), (123, 0, 0)], [(120, 0, 0), (122, 0, 0)], [(121, 0, 0), (121, 0, 0), (126, 0, 0), (6, 1, 1)], [(122, 0, 0), (122, 0, 0), (126, 0, 0), (126, 0, 0)], [(120, 0, 0), (168, 0, 0)], [(121, 0, 0), (169, 0, 0), (129, 0, 0), (3, 1, 1)], [(122, 0, 0), (170, 0, 0), (129, 0, 0), (129, 0, 0)], [(141, 0, 0)], [(142, 0, 0), (132, 0, 0), (0, 0, 1)], [(143, 0, 0), (132, 0, 0), (132, 0, 0)], [(132, 0, 0), (156, 0, 0)], [(133, 0, 0), (157, 0, 0), (135, 0, 0), (3, 0, 1)], [(134, 0, 0), (158, 0, 0), (135, 0, 0), (135, 0, 0)], [(132, 0, 0), (134, 0, 0)], [(133, 0, 0), (133, 0, 0), (138, 0, 0), (6, 0, 1)], [(134, 0, 0), (134, 0, 0), (138, 0, 0), (138, 0, 0)], [(132, 0, 0), (180, 0, 0)], [(133, 0, 0), (181, 0, 0), (141, 0, 0), (3, 0, 1)], [(134, 0, 0), (182, 0, 0), (141, 0, 0), (141, 0, 0)], [(153, 0, 0)], [(154, 0, 0), (144, 0, 0), (24, 1, 1)], [(155, 0, 0), (144, 0, 0), (144, 0, 0)], [(144, 0, 0), (193, 2, 0)], [(145, 0, 0), (193, 2, 0), (147, 0, 0), (27, 1, 1)], [(146, 0, 0), (194, 2, 0), (147, 0, 0), (147, 0, 0)], [(144, 0, 0), (122, 0, 0)], [(145, 0, 0), (121, 0, 0), (150, 0, 0), (30, 1, 1)], [(146, 0, 0), (122, 0, 0), (150, 0, 0), (150, 0, 0)], [(144, 0, 0), (168, 0, 0)], [(145, 0, 0), (169, 0, 0), (153, 0, 0), (27, 1, 1)], [(146, 0, 0), (170, 0, 0), (153, 0, 0), (153, 0, 0)], [(165, 0, 0)], [(166, 0, 0), (156, 0, 0), (24, 0, 1)], [(167, 0, 0), (156, 0, 0), (156, 0, 0)], [(156, 0, 0), (205, 2, 0)], [(157, 0, 0), (205, 2, 0), (159, 0, 0), (27, 0, 1)], [(158, 0, 0), (206, 2, 0), (159, 0, 0), (159, 0, 0)], [(156, 0, 0), (134, 0, 0)], [(157, 0, 0), (133, 0, 0), (162, 0, 0), (30, 0, 1)], [(158, 0, 0), (134, 0, 0), (162, 0, 0), (162, 0, 0)], [(156, 0, 0), (180, 0, 0)], [(157, 0, 0), (181, 0, 0), (165, 0, 0), (27, 0, 1)], [(158, 0, 0), (182, 0, 0), (165, 0, 0), (165, 0, 0)], [(177, 0, 0)], [(178, 0, 0), (168, 0, 0), (24, 1, 1)], [(179, 0, 0), (168, 0, 0), (168, 0, 0)], [(168, 0, 0), (144, 0, 0)], [(169, 0, 0), (145, 0, 0), (171, 0, 0), (27, 1, 1)], [(170, 0, 0), (146, 0, 0), (171, 0, 0), (171, 0, 0)], [(168, 0, 0), (122, 0, 0)], [(169, 0, 0), (121, 0, 0), (174, 0, 0), (30, 1, 1)], [(170, 0, 0), (122, 0, 0), (174, 0, 0), (174, 0, 0)], [(168, 0, 0), (205, 0, 0)], [(169, 0, 0), (205, 0, 0), (177, 0, 0), (27, 1, 1)], [(170, 0, 0), (206, 0, 0), (177, 0, 0), (177, 0, 0)], [(189, 0, 0)], [(190, 0, 0), (180, 0, 0), (24, 0, 1)], [(191, 0, 0), (180, 0, 0), (180, 0, 0)], [(180, 0, 0), (156, 0, 0)], [(181, 0, 0), (157, 0, 0), (183, 0, 0), (27, 0, 1)], [(182, 0, 0), (158, 0, 0), (183, 0, 0), (183, 0, 0)], [(180, 0, 0), (134, 0, 0)], [(181, 0, 0), (133, 0, 0), (186, 0, 0), (30, 0, 1)], [(182, 0, 0), (134, 0, 0), (186, 0, 0), (186, 0, 0)], [(180, 0, 0), (205, 3, 0)], [(181, 0, 0), (205, 3, 0), (189, 0, 0), (27, 0, 1)], [(182, 0, 0), (206, 3, 0), (189, 0, 0), (189, 0, 0)], [(201, 0, 0)], [(202, 0, 0), (192, 0, 0), (48, 1, 1)], [(203, 0, 0), (192, 0, 0), (192, 0, 0)], [(192, 0, 0), (193, 0, 0)], [(193, 0, 0), (193, 0, 0), (195, 0, 0), (51, 1, 1)], [(194, 0, 0), (194, 0, 0), (195, 0, 0), (195, 0, 0)], [(192, 0, 0), (216, 0, 0)], [(193, 0, 0), (217, 0, 0), (198, 0, 0), (54, 1, 1)], [(194, 0, 0), (218, 0, 0), (198, 0, 0), (198, 0, 0)], [(192, 0, 0), (193, 0, 0)], [(193, 0, 0), (193, 0, 0), (201, 0, 0), (51, 1, 1)], [(194, 0, 0), (194, 0, 0), (201, 0, 0), (201, 0, 0)], [(213, 0, 0)], [(214, 0, 0), (204, 0, 0), (48, 0, 1)], [(215, 0, 0), (204, 0, 0), (204, 0, 0)], [(204, 0, 0), (205, 0, 0)], [(205, 0, 0), (205, 0, 0), (207, 0, 0), (51, 0, 1)], [(206, 0, 0), (206, 0, 0), (207, 0, 0), (207, 0, 0)], [(204, 0, 0), (228, 0, 0)], [(205, 0, 0), (229, 0, 0), (210, 0, 0), (54, 0, 1)], [(206, 0, 0), (230, 0, 0), (210, 0, 0), (210, 0, 0)], [(204, 0, 0), (205, 0, 0)], [(205, 0, 0), (205, 0, 0), (213, 0, 0), (51, 0, 1)], [(206, 0, 0), (206, 0, 0), (213, 0, 0), (213, 0, 0)], [(225, 0, 0)], [(226, 0, 0), (216, 0, 0), (72, 1, 1)], [(227, 0, 0), (216, 0, 0), (216, 0, 0)], [(216, 0, 0), (193, 0, 0)], [(217, 0, 0), (193, 0, 0), (219, 0, 0), (75, 1, 1)], [(218, 0, 0), (194, 0, 0), (219, 0, 0), (219, 0, 0)], [(216, 0, 0), (122, 2, 0)], [(217, 0, 0), (121, 2, 0), (222, 0, 0), (78, 1, 1)], [(218, 0, 0), (122, 2, 0), (222, 0, 0), (222, 0, 0)], [(216, 0, 0), (193, 0, 0)], [(217, 0, 0), (193, 0, 0), (225, 0, 0), (75, 1, 1)], [(218, 0, 0), (194, 0, 0), (225, 0, 0), (225, 0, 0)], [(237, 0, 0)], [(238, 0, 0), (228, 0, 0), (72, 0, 1)], [(239, 0, 0), (228, 0, 0), (228, 0, 0)], [(228, 0, 0), (205, 0, 0)], [(229, 0, 0), (205, 0, 0), (231, 0, 0), (75, 0, 1)], [(230, 0, 0), (206, 0, 0), (231, 0, 0), (231, 0, 0)], [(228, 0, 0), (134, 2, 0)], [(229, 0, 0), (133, 2, 0), (234, 0, 0), (78, 0, 1)], [(230, 0, 0), (134, 2, 0), (234, 0, 0), (234, 0, 0)], [(228, 0, 0), (205, 0, 0)], [(229, 0, 0), (205, 0, 0), (237, 0, 0), (75, 0, 1)], [(230, 0, 0), (206, 0, 0), (237, 0, 0), (237, 0, 0)]]
def rk2 : List Nat := [4981605347439872268003988173511782543667534142939129618010446133367906982127554570255317348899194648912110119862873638228892586928798325923333629537451388404958474040388212465621726314331092363689648706255835282812566377065121838495148430084022470527294552498891022265462823360972728044068462382272775959097060593466240862873122353238328796782482350847243059200, 2187615807060740205342811307122431648845506915651162211346912239156947248044094663398937354854709259533226779189222473135013815648287506060620662601149993696633208454018566032551711001636772693329240794737261201273776037729987749841996056813734914417064770745844907981058767618718687391968041652659558408116217771601317754839222574253757291271548854969735053312, 4320853872127772509623828423648373000798562692160936797993835979705017083102249447249334186389766413730807261961307109470720439808125912583541956233661113916950565778169536498095486192836239999168319848204937409306396365737227095823433999266403094460490984609202060365652639687268986644294868314670722838844356349521903470446596042905810705737, 1897454248463107712634547012619412293577605719110923929287854313542732762092822791122803458157876402754170126833699928965110727426916493056086718223691832902622055708721484776665477087070604883974371199538644621996955243845954465984519622319788800542814878142674344993394612338104509316823691955470435615608996826243995434919642352405226621092, 190678164835717433423290477889302407863043042791293894628193921981657724963760299013800416475767619434243552148491209051179562472767650720778875123176866299087310489693842939539394744098687657319057549886324831461085640224529736092163901874269664924736482212860036289117987359421319995787356162248441534645199091194926146056043117122945024, 1539452027355350726418161863847387018429855829548476935184305926382677364584502216281301915403779738609845354027708606700290963663428542361375460083944293401752380368626902042104567436735163017223426894441760066838545575107042770810512410077692917292108888444903000463070724024012946351861829576760924803613071785272137093225566470417094652563132340240384, 3428590003179046019847977457806283651506777363838732924313618842154945394326054217199133639134878373435511623524127768976075857830539354759619020468669809766555971281863075834961833467592570458338389478367661986063437568630857484289796932534819182143157806029554110389667944048384876216320, 1856765162630659072767224249789421655285753218345131007452579516091710039892303851961376139114897570260773766370994946515805930195039609285548785680739154546084392048068647825194067217388790634738841377234227236888165449784011163084764360396396807156249024917723390793066787800229420728320]
def codes3 : List Nat := [0, 19683, 6561, 2187, 21870, 8748, 729, 20412, 7290, 243, 19926, 6804, 81, 19764, 6642, 2268, 21951, 8829, 810, 20493, 7371, 324, 20007, 6885, 9, 19692, 6570, 2196, 21879, 8757, 738, 20421, 7299, 252, 19935, 6813, 90, 19773, 6651, 2277, 21960, 8838, 819, 20502, 7380, 333, 20016, 6894, 3, 19686, 6564, 2190, 21873, 8751, 732, 20415, 7293, 246, 19929, 6807, 84, 19767, 6645, 2271, 21954, 8832, 813, 20496, 7374, 327, 20010, 6888, 12, 19695, 6573, 2199, 21882, 8760, 741, 20424, 7302, 255, 19938, 6816, 93, 19776, 6654, 2280, 21963, 8841, 822, 20505, 7383, 336, 20019, 6897, 1, 19684, 6562, 2188, 21871, 8749, 730, 20413, 7291, 244, 19927, 6805, 82, 19765, 6643, 2269, 21952, 8830, 811, 20494, 7372, 325, 20008, 6886, 10, 19693, 6571, 2197, 21880, 8758, 739, 20422, 7300, 253, 19936, 6814, 91, 19774, 6652, 2278, 21961, 8839, 820, 20503, 7381, 334, 20017, 6895, 4, 19687, 6565, 2191, 21874, 8752, 733, 20416, 7294, 247, 19930, 6808, 85, 19768, 6646, 2272, 21955, 8833, 814, 20497, 7375, 328, 20011, 6889, 13, 19696, 6574, 2200, 21883, 8761, 742, 20425, 7303, 256, 19939, 6817, 94, 19777, 6655, 2281, 21964, 8842, 823, 20506, 7384, 337, 20020, 6898]
def kt3 : List (List (Nat × Nat × Nat)) := [[(9, 0, 0)], [(10, 0, 0), (0, 0, 0), (0, 0, 0)], [(11, 0, 0), (0, 0, 0), (48, 0, 0)], [(0, 0, 0), (25, 2, 0)], [(1, 0, 0), (25, 2, 0), (3, 0, 0), (3, 0, 0)], [(2, 0, 0), (26, 2, 0), (3, 0, 0), (51, 0, 0)], [(0, 0, 0), (2, 0, 0)], [(1, 0, 0), (1, 0, 0), (6, 0, 0), (6, 0, 0)], [(2, 0, 0), (2, 0, 0), (6, 0, 0), (54, 0, 0)], [(0, 0, 0), (2, 0, 0)], [(1, 0, 0), (1, 0, 0), (9, 0, 0), (9, 0, 0)], [(2, 0, 0), (2, 0, 0), (9, 0, 0), (57, 0, 0)], [(21, 0, 0)], [(22, 0, 0), (12, 0, 0), (12, 0, 0)], [(23, 0, 0), (12, 0, 0), (60, 0, 0)], [(12, 0, 0), (37, 2, 0)], [(13, 0, 0), (37, 2, 0), (15, 0, 0), (15, 0, 0)], [(14, 0, 0), (38, 2, 0), (15, 0, 0), (63, 0, 0)], [(12, 0, 0), (14, 0, 0)], [(13, 0, 0), (13, 0, 0), (18, 0, 0), (18, 0, 0)], [(14, 0, 0), (14, 0, 0), (18, 0, 0), (66, 0, 0)], [(12, 0, 0), (14, 0, 0)], [(13, 0, 0), (13, 0, 0), (21, 0, 0), (21, 0, 0)], [(14, 0, 0), (14, 0, 0), (21, 0, 0), (69, 0, 0)], [(33, 0, 0)], [(34, 0, 0), (24, 0, 0), (24, 0, 0)], [(35, 0, 0), (24, 0, 0), (72, 0, 0)], [(24, 0, 0), (25, 0, 0)], [(25, 0, 0), (25, 0, 0), (27, 0, 0), (27, 0, 0)], [(26, 0, 0), (26, 0, 0), (27, 0, 0), (75, 0, 0)], [(24, 0, 0), (2, 2, 0)], [(25, 0, 0), (1, 2, 0), (30, 0, 0), (30, 0, 0)], [(26, 0, 0), (2, 2, 0), (30, 0, 0), (78, 0, 0)], [(24, 0, 0), (14, 0, 0)], [(25, 0, 0), (13, 0, 0), (33, 0, 0), (33, 0, 0)], [(26, 0, 0), (14, 0, 0), (33, 0, 0), (81, 0, 0)], [(45, 0, 0)], [(46, 0, 0), (36, 0, 0), (36, 0, 0)], [(47, 0, 0), (36, 0, 0), (84, 0, 0)], [(36, 0, 0), (37, 0, 0)], [(37, 0, 0), (37, 0, 0), (39, 0, 0), (39, 0, 0)], [(38, 0, 0), (38, 0, 0), (39, 0, 0), (87, 0, 0)], [(36, 0, 0), (14, 2, 0)], [(37, 0, 0), (13, 2, 0), (42, 0, 0), (42, 0, 0)], [(38, 0, 0), (14, 2, 0), (42, 0, 0), (90, 0, 0)], [(36, 0, 0), (14, 3, 0)], [(37, 0, 0), (13, 3, 0), (45, 0, 0), (45, 0, 0)], [(38, 0, 0), (14, 3, 0), (45, 0, 0), (93, 0, 0)], [(57, 0, 0)], [(58, 0, 0), (48, 0, 0), (48, 0, 0)], [(59, 0, 0), (48, 0, 0), (96, 1, 1)], [(48, 0, 0), (73, 2, 0)], [(49, 0, 0), (73, 2, 0), (51, 0, 0), (51, 0, 0)], [(50, 0, 0), (74, 2, 0), (51, 0, 0), (99, 1, 1)], [(48, 0, 0), (50, 0, 0)], [(49, 0, 0), (49, 0, 0), (54, 0, 0), (54, 0, 0)], [(50, 0, 0), (50, 0, 0), (54, 0, 0), (102, 1, 1)], [(48, 0, 0), (50, 0, 0)], [(49, 0, 0), (49, 0, 0), (57, 0, 0), (57, 0, 0)], [(50, 0, 0), (50, 0, 0), (57, 0, 0), (102, 1, 1)], [(69, 0, 0)], [(70, 0, 0), (60, 0, 0), (60, 0, 0)], [(71, 0, 0), (60, 0, 0), (96, 0, 1)], [(60, 0, 0), (85, 2, 0)], [(61, 0, 0), (85, 2, 0), (63, 0, 0), (63, 0, 0)], [(62, 0, 0), (86, 2, 0), (63, 0, 0), (99, 0, 1)], [(60, 0, 0), (62, 0, 0)], [(61, 0, 0), (61, 0, 0), (66, 0, 0), (66, 0, 0)], [(62, 0, 0), (62, 0, 0), (66, 0, 0), (102, 0, 1)], [(60, 0, 0), (62, 0, 0)], [(61, 0, 0), (61, 0, 0), (69, 0, 0), (69, 0, 0)], [(62, 0, 0), (62, 0, 0), (69, 0, 0), (102, 0, 1)], [(81, 0, 0)], [(82, 0, 0), (72, 0, 0), (72, 0, 0)], [(83, 0, 0), (72, 0, 0), (120, 1, 1)], [(72, 0, 0), (73, 0, 0)], [(73, 0, 0), (73, 0, 0), (75, 0, 0), (75, 0, 0)], [(74, 0, 0), (74, 0, 0), (75, 0, 0), (123, 1, 1)], [(72, 0, 0), (50, 2, 0)], [(73, 0, 0), (49, 2, 0), (78, 0, 0), (78, 0, 0)], [(74, 0, 0), (50, 2, 0), (78, 0, 0), (126, 1, 1)], [(72, 0, 0), (62, 0, 0)], [(73, 0, 0), (61, 0, 0), (81, 0, 0), (81, 0, 0)], [(74, 0, 0), (62, 0, 0), (81, 0, 0), (126, 1, 1)], [(93, 0, 0)], [(94, 0, 0), (84, 0, 0), (84, 0, 0)], [(95, 0, 0), (84, 0, 0), (120, 0, 1)], [(84, 0, 0), (85, 0, 0)], [(85, 0, 0), (85, 0, 0), (87, 0, 0), (87, 0, 0)], [(86, 0, 0), (86, 0, 0), (87, 0, 0), (123, 0, 1)], [(84, 0, 0), (62, 2, 0)], [(85, 0, 0), (61, 2, 0), (90, 0, 0), (90, 0, 0)], [(86, 0, 0), (62, 2, 0), (90, 0, 0), (126, 0, 1)], [(84, 0, 0), (62, 3, 0)], [(85, 0, 0), (61, 3, 0), (93, 0, 0), (93, 0, 0)], [(86, 0, 0), (62, 3, 0), (93, 0, 0), (126, 0, 1)], [(105, 0, 0)], [(106, 0, 0), (96, 0, 0), (144, 0, 0)], [(107, 0, 0), (96, 0, 0), (96, 0, 0)], [(96, 0, 0), (121, 2, 0)], [(97, 0, 0), (121, 2, 0), (99, 0, 0), (147, 0, 0)], [(98, 0, 0), (122, 2, 0), (99, 0, 0), (99, 0, 0)], [(96, 0, 0), (98, 0, 0)], [(97, 0, 0), (97, 0, 0), (102, 0, 0), (150, 0, 0)], [(98, 0, 0), (98, 0, 0), (102, 0, 0), (102, 0, 0)], [(96, 0, 0), (133, 0, 0)], [(97, 0, 0), (133, 0, 0), (105, 0, 0), (153, 0, 0)], [(98, 0, 0), (134, 0, 0), (105, 0, 0), (105, 0, 0)], [(117, 0, 0)], [(118, 0, 0), (108, 0, 0), (156, 0, 0)], [(119, 0, 0), (108, 0, 0), (108, 0, 0)], [(108, 0, 0), (133, 2, 0)], [(109, 0, 0), (133, 2, 0), (111, 0, 0), (159, 0, 0)], [(110, 0, 0), (134, 2, 0), (111, 0, 0), (111, 0, 0)], [(108, 0, 0), (110, 0, 0)], [(109, 0, 0), (109, 0, 0), (114, 0, 0), (162, 0, 0)], [(110, 0, 0), (110, 0, 0), (114, 0, 0), (114, 0, 0)], [(108, 0, 0), (133, 3, 0)], [(109, 0, 0), (133, 3, 0), (117, 0, 0), (165, 0, 0)], [(110, 0, 0), (134, 3, 0), (117, 0, 0), (117, 0, 0)], [(129, 0, 0)], [(130, 0, 0), (120, 0, 0), (168, 0, 0)], [(131, 0, 0), (120, 0, 0), (120, 0, 0)], [(120, 0, 0), (121, 0, 0)], [(121, 0, 0), (121, 0, 0), (123, 0, 0), (171, 0, 0)], [(122, 0, 0), (122, 0, 0), (123, 0, 0), (123, 0, 0)], [(120, 0, 0), (98, 2, 0)], [(121, 0, 0), (97, 2, 0), (126, 0, 0), (174, 0, 0)], [(122, 0, 0), (98, 2, 0), (126, 0, 0), (126, 0, 0)], [(120, 0, 0), (121, 0, 0)], [(121, 0, 0), (121, 0, 0), (129, 0, 0), (177, 0, 0)], [(122, 0, 0), (122, 0, 0), (129, 0, 0), (129, 0, 0)], [(141, 0, 0)], [(142, 0, 0), (132, 0, 0), (180, 0, 0)], [(143, 0, 0), (132, 0, 0), (132, 0, 0)], [(132, 0, 0), (133, 0, 0)], [(133, 0, 0), (133, 0, 0), (135, 0, 0), (183, 0, 0)], [(134, 0, 0), (134, 0, 0), (135, 0, 0), (135, 0, 0)], [(132, 0, 0), (110, 2, 0)], [(133, 0, 0), (109, 2, 0), (138, 0, 0), (186, 0, 0)], [(134, 0, 0), (110, 2, 0), (138, 0, 0), (138, 0, 0)], [(132, 0, 0), (133, 0, 0)], [(133, 0, 0), (133, 0, 0), (141, 0, 0), (189, 0, 0)], [(134, 0, 0), (134, 0, 0), (141, 0, 0), (141, 0, 0)], [(153, 0, 0)], [(154, 0, 0), (144, 0, 0), (0, 1, 1)], [(155, 0, 0), (144, 0, 0), (144, 0, 0)], [(144, 0, 0), (169, 2, 0)], [(145, 0, 0), (169, 2, 0), (147, 0, 0), (3, 1, 1)], [(146, 0, 0), (170, 2, 0), (147, 0, 0), (147, 0, 0)], [(144, 0, 0), (146, 0, 0)], [(145, 0, 0), (145, 0, 0), (150, 0, 0), (6, 1, 1)], [(146, 0, 0), (146, 0, 0), (150, 0, 0), (150, 0, 0)], [(144, 0, 0), (181, 0, 0)], [(145, 0, 0), (181, 0, 0), (153, 0, 0), (3, 1, 1)], [(146, 0, 0), (182, 0, 0), (153, 0, 0), (153, 0, 0)], [(165, 0, 0)], [(166, 0, 0), (156, 0, 0), (0, 0, 1)], [(167, 0, 0), (156, 0, 0), (156, 0, 0)], [(156, 0, 0), (181, 2, 0)], [(157, 0, 0), (181, 2, 0), (159, 0, 0), (3, 0, 1)], [(158, 0, 0), (182, 2, 0), (159, 0, 0), (159, 0, 0)], [(156, 0, 0), (158, 0, 0)], [(157, 0, 0), (157, 0, 0), (162, 0, 0), (6, 0, 1)], [(158, 0, 0), (158, 0, 0), (162, 0, 0), (162, 0, 0)], [(156, 0, 0), (181, 3, 0)], [(157, 0, 0), (181, 3, 0), (165, 0, 0), (3, 0, 1)], [(158, 0, 0), (182, 3, 0), (165, 0, 0), (165, 0, 0)], [(177, 0, 0)], [(178, 0, 0), (168, 0, 0), (24, 1, 1)], [(179, 0, 0), (168, 0, 0), (168, 0, 0)], [(168, 0, 0), (169, 0, 0)], [(169, 0, 0), (169, 0, 0), (171, 0, 0), (27, 1, 1)], [(170, 0, 0), (170, 0, 0), (171, 0, 0), (171, 0, 0)], [(168, 0, 0), (146, 2, 0)], [(169, 0, 0), (145, 2, 0), (174, 0, 0), (30, 1, 1)], [(170, 0, 0), (146, 2, 0), (174, 0, 0), (174, 0, 0)], [(168, 0, 0), (169, 0, 0)], [(169, 0, 0), (169, 0, 0), (177, 0, 0), (27, 1, 1)], [(170, 0, 0), (170, 0, 0), (177, 0, 0), (177, 0, 0)], [(189, 0, 0)], [(190, 0, 0), (180, 0, 0), (24, 0, 1)], [(191, 0, 0), (180, 0, 0), (180, 0, 0)], [(180, 0, 0), (181, 0, 0)], [(181, 0, 0), (181, 0, 0), (183, 0, 0), (27, 0, 1)], [(182, 0, 0), (182, 0, 0), (183, 0, 0), (183, 0, 0)], [(180, 0, 0), (158, 2, 0)], [(181, 0, 0), (157, 2, 0), (186, 0, 0), (30, 0, 1)], [(182, 0, 0), (158, 2, 0), (186, 0, 0), (186, 0, 0)], [(180, 0, 0), (181, 0, 0)], [(181, 0, 0), (181, 0, 0), (189, 0, 0), (27, 0, 1)], [(182, 0, 0), (182, 0, 0), (189, 0, 0), (189, 0, 0)]]
def rk3 : List Nat := [3133853675846085321362040022744668507160167028390869234417911329555757872937678992517121810981624859996917081938795470504183849449030010376497472903174577664174821681501645559249695184724951527020113468811789553650446220234181755137936323702367499210564604618793777644255270866928923574272, 1238146668531909924735742339247946662964038283143503408976791069300678346263648403669610934840631759419614078796329731908433201191271712942999366905336858760717289942501414279871608448486971683986718625110636267372875072285480069476720073238056417267876065112268502896331431322094118371328, 2718184770883207598681935786139781042402617306820638468931715354039597801862600303809505000727501308490404415684411493156400073514386921870421782948244024419077527225894531559717505939274909562999849471652360206174310677079812560142700484059007643464744894598388603366861, 1073921046302389191384517255808915082094417879583339067858318458306032573005928263377134154742507724590363969994102963656680873314768032949250921789945790747763039949656754296987699534550112166432068199118168383355736246271462496348234863203802526446763509930289079260423, 99599099277383707491110366675573216360741303860536912857064214315634328949564267308213481423411501624093411329583861350864570437559148137438618689755938591409205500415098370085885515364128029653949404003375199450926552985097563725104721723929220799755993712220930048, 871298969811201063031834152241033827492724434743610732571933139843202235394101497014147658425980000888619969490648392071070892213667139575854480683286929164866351076981076324999266106936734616948137818358280256889253716353452178416689611012532375730690877498223464451580168313798656, 2815886351444538689333067792520740816580740239513945779433093973254388133935556366962068803626415334767915082301433561585370897782395522203786716318156534335710847595821148029788281558347684818173492168422361654255242881553741860684177233597257408839680, 1396874854064618032177178518787117296208892773062343860490228296283747539685046324526195056898483341395932736556202865250501576558103872153413293573678537837296631219782655786825689752018031862541058024335003467245293411318760185920230755825303714529280]
def lotOf (k : Nat) : Option (Bool × Nat) := if k = 0 then none else if k = 1 then some (false, 1) else some (true, 1)
def mkC (k : Nat) : Ct := ⟨k % 3, k / 3 % 3, k / 9 % 3, lotOf (k / 27 % 3), decide (k / 81 % 3 = 1), k / 243 % 3, k / 729 % 3, k / 2187 % 3, k / 6561 % 3, k / 19683 % 3⟩
def numL (L : Lk) : Nat := if L.p = 2 then 1 else if L.q = 2 then 2 else 0
def codesOf (L : Lk) : List Nat := if L.p = 2 then codes2 else if L.q = 2 then codes3 else codes1
def ktOf (L : Lk) : List (List (Nat × Nat × Nat)) := if L.p = 2 then kt2 else if L.q = 2 then kt3 else kt1
def rkOf (L : Lk) : List Nat := if L.p = 2 then rk2 else if L.q = 2 then rk3 else rk1
def csOf (L : Lk) : List Ct := (codesOf L).map mkC
def kS : Nat → Str
  | 0 => ""
  | 1 => "lost"
  | 2 => "made"
  | _ => "twice"
def wS : Nat → Option Str
  | 0 => none
  | k + 1 => some (kS (k + 1))
theorem small_cases {Pr : Lk → Prop} (h1 : Pr ⟨1, 1, 1, 1⟩) (h2 : Pr ⟨1, 1, 2, 1⟩) (h3 : Pr ⟨1, 1, 1, 2⟩) : ∀ L ∈ smallL, Pr L := by
  intro L h
  simp only [smallL, List.mem_cons, List.not_mem_nil, or_false] at h
  rcases h with rfl | rfl | rfl
  · exact h1
  · exact h2
  · exact h3
theorem all_cs : ∀ L ∈ smallL, allD L = (csOf L).map dC := small_cases (by kernel_rfl) (by kernel_rfl) (by kernel_rfl)
/-! contents are as they should be -/
def okB (L : Lk) (c : Ct) : Bool := decide (c.bit ≤ 1) && decide (c.heard + 1 ≤ L.q) && decide (c.own ≤ 1) && decide (c.n + c.z + c.o ≤ L.c) && decide (c.b0 + c.b1 ≤ L.d) &&
  match c.lot with
  | none => true
  | some (nw, m) => decide (1 ≤ m) && decide (m + 1 ≤ L.p) && (!nw || decide (c.bit ≠ c.own))
theorem okB_ok {L : Lk} {c : Ct} (h : okB L c = true) : c.Ok L := by
  unfold okB at h
  simp only [Bool.and_eq_true, decide_eq_true_eq] at h
  obtain ⟨⟨⟨⟨⟨h1, h2⟩, h3⟩, h4⟩, h5⟩, h6⟩ := h
  refine ⟨h1, h2, h3, ?_, h4, h5⟩
  cases hl : c.lot with
  | none => exact True.intro
  | some x =>
    obtain ⟨nw, m⟩ := x
    rw [hl] at h6
    simp only [Bool.and_eq_true, decide_eq_true_eq, Bool.or_eq_true, Bool.not_eq_true'] at h6
    refine ⟨h6.1.1, h6.1.2, fun e => ?_⟩
    rcases h6.2 with z | z
    · rw [e] at z; cases z
    · exact z
theorem cs_okB : ∀ L ∈ smallL, ((csOf L).all fun c => okB L c) = true := small_cases (by decide +kernel) (by decide +kernel) (by decide +kernel)
theorem cs_ok {L : Lk} (h : L ∈ smallL) {c : Ct} (hc : c ∈ csOf L) : c.Ok L := okB_ok (List.all_eq_true.mp (cs_okB L h) c hc)
theorem small_ok : ∀ L ∈ smallL, L.Ok := small_cases ⟨by decide, by decide, by decide, by decide, by decide, by decide⟩ ⟨by decide, by decide, by decide, by decide, by decide, by decide⟩ ⟨by decide, by decide, by decide, by decide, by decide, by decide⟩
theorem cs_nodup : ∀ L ∈ smallL, (csOf L).Nodup := small_cases (by decide +kernel) (by decide +kernel) (by decide +kernel)
/-! the table of moves -/
def movesB (L : Lk) : Bool := decide ((csOf L).length = (ktOf L).length) && ((csOf L).zip (ktOf L)).all fun cr =>
  decide ((mMoves L cr.1).map (fun m => (some m.2.1, m.2.2, if m.2.1.bit = cr.1.bit then 0 else 1)) = cr.2.map fun r => ((csOf L)[r.1]?, wS r.2.1, r.2.2))
theorem moves_ok : ∀ L ∈ smallL, movesB L = true := small_cases (by decide +kernel) (by decide +kernel) (by decide +kernel)
end Hw

set_option Elab.async false
set_option linter.all false
set_option maxRecDepth 100000
set_option maxHeartbeats 4000000
/-! HR: what a search reaches. -/
namespace Hw
open PySem PySem.Spec PyProof.Rows L2
abbrev St3 := Nat × Nat × Nat
abbrev Tab := List (List (Nat × Nat × Nat))
def nextS (r : Nat × Nat × Nat) (t k : Nat) : St3 := (r.1, t + r.2.2, if r.2.1 = 0 then k else r.2.1)
inductive Reach (T : Tab) (i : Nat) : St3 → Prop
  | start : Reach T i (i, 0, 0)
  | step {x t k : Nat} {row : List (Nat × Nat × Nat)} {r : Nat × Nat × Nat} : Reach T i (x, t, k) → t ≠ 2 → T[x]? = some row → r ∈ row → (r.2.1 = 0 ∨ k = 0) → Reach T i (nextS r t k)
structure TOk (T : Tab) : Prop where
  len : T.length ≤ 300
  row : ∀ row ∈ T, row.length ≤ 20 ∧ ∀ r ∈ row, r.1 < T.length ∧ r.2.1 < 4 ∧ r.2.2 ≤ 1
def Fit (T : Tab) (s : St3) : Prop := s.1 < T.length ∧ s.2.1 ≤ 2 ∧ s.2.2 < 4
theorem TOk.next {T : Tab} (h : TOk T) {x t k : Nat} {row : List (Nat × Nat × Nat)} {r : Nat × Nat × Nat} (f : Fit T (x, t, k)) (ht : t ≠ 2) (hx : T[x]? = some row) (hr : r ∈ row) : Fit T (nextS r t k) := by
  obtain ⟨h1, h2, h3⟩ := (h.row row (List.mem_of_getElem? hx)).2 r hr
  obtain ⟨f1, f2, f3⟩ := f
  refine ⟨h1, ?_, ?_⟩
  · show t + r.2.2 ≤ 2
    have : t ≤ 2 := f2
    omega
  · show (if r.2.1 = 0 then k else r.2.1) < 4
    split
    · exact f3
    · exact h2
theorem Reach.fit {T : Tab} (h : TOk T) {i : Nat} (hi : i < T.length) {s : St3} (r : Reach T i s) : Fit T s := by
  induction r with
  | start => exact ⟨hi, Nat.zero_le _, Nat.zero_lt_succ 3⟩
  | step _ ht hx hr _ ih => exact h.next ih ht hx hr
/-! how many there may be -/
theorem nodup_len {α : Type} [DecidableEq α] : ∀ (l m : List α), l.Nodup → (∀ x ∈ l, x ∈ m) → l.length ≤ m.length
  | [], m, _, _ => Nat.zero_le _
  | a :: l, m, h, hm => by
    obtain ⟨h1, h2⟩ := List.nodup_cons.mp h
    have ha : a ∈ m := hm a List.mem_cons_self
    have := nodup_len l (m.erase a) h2 fun x hx => (List.mem_erase_of_ne (fun (e : x = a) => h1 (by rw [← e]; exact hx))).mpr (hm x (List.mem_cons_of_mem _ hx))
    rw [List.length_erase_of_mem ha] at this
    have hp : 0 < m.length := List.length_pos_of_mem ha
    rw [List.length_cons]
    omega
def uni (n : Nat) : List St3 := (List.range n).flatMap fun x => (List.range 3).flatMap fun t => (List.range 4).map fun k => (x, t, k)
theorem uni_len : ∀ l : List Nat, (l.flatMap fun x => (List.range 3).flatMap fun t => (List.range 4).map fun k => ((x, t, k) : St3)).length = 12 * l.length
  | [] => rfl
  | x :: l => by
    rw [List.flatMap_cons, List.length_append, uni_len l, List.length_cons]
    have : ((List.range 3).flatMap fun t => (List.range 4).map fun k => ((x, t, k) : St3)).length = 12 := rfl
    omega
theorem fit_uni {T : Tab} {s : St3} (f : Fit T s) : s ∈ uni T.length := by
  obtain ⟨x, t, k⟩ := s
  obtain ⟨f1, f2, f3⟩ := f
  exact List.mem_flatMap.mpr ⟨x, List.mem_range.mpr f1, List.mem_flatMap.mpr ⟨t, List.mem_range.mpr (show t < 3 from Nat.lt_succ_of_le f2), List.mem_map.mpr ⟨k, List.mem_range.mpr f3, rfl⟩⟩⟩
/-! the search's own state -/
def Done (T : Tab) (S : List St3) (ks : List Nat) (s : St3) : Prop := (s.2.1 = 2 → s.2.2 ∈ ks) ∧ (s.2.1 ≠ 2 → ∀ row, T[s.1]? = some row → ∀ r ∈ row, (r.2.1 = 0 ∨ s.2.2 = 0) → nextS r s.2.1 s.2.2 ∈ S)
theorem Done.mono {T : Tab} {S S' : List St3} {ks ks' : List Nat} {s : St3} (h : Done T S ks s) (h1 : ∀ x ∈ S, x ∈ S') (h2 : ∀ x ∈ ks, x ∈ ks') : Done T S' ks' s :=
  ⟨fun e => h2 _ (h.1 e), fun e row hr r hm hg => h1 _ (h.2 e row hr r hm hg)⟩
structure SI (T : Tab) (i : Nat) (S Q : List St3) (ks : List Nat) : Prop where
  nd : S.Nodup
  reach : ∀ s ∈ S, Reach T i s
  st : (i, 0, 0) ∈ S
  qs : ∀ s ∈ Q, s ∈ S
  kd : ks.Nodup
  kr : ∀ k ∈ ks, ∃ x, (x, 2, k) ∈ S
theorem SI.len {T : Tab} {i : Nat} {S Q : List St3} {ks : List Nat} (h : SI T i S Q ks) (ok : TOk T) (hi : i < T.length) : S.length ≤ 12 * T.length := by
  have := nodup_len S (uni T.length) h.nd fun s hs => fit_uni ((h.reach s hs).fit ok hi)
  unfold uni at this
  rw [uni_len, List.length_range] at this
  exact this
theorem SI.klt {T : Tab} {i : Nat} {S Q : List St3} {ks : List Nat} (h : SI T i S Q ks) (ok : TOk T) (hi : i < T.length) : ∀ k ∈ ks, k < 4 := fun k hk => by
  obtain ⟨x, hx⟩ := h.kr k hk
  exact ((h.reach _ hx).fit ok hi).2.2
theorem SI.klen {T : Tab} {i : Nat} {S Q : List St3} {ks : List Nat} (h : SI T i S Q ks) (ok : TOk T) (hi : i < T.length) : ks.length ≤ 4 :=
  nodup_len ks (List.range 4) h.kd fun k hk => List.mem_range.mpr (h.klt ok hi k hk)
/-- the end: all that is reached is held -/
theorem SI.final {T : Tab} {i : Nat} {S : List St3} {ks : List Nat} (h : SI T i S [] ks) (hd : ∀ s ∈ S, Done T S ks s) (k : Nat) : k ∈ ks ↔ ∃ x, Reach T i (x, 2, k) := by
  have all : ∀ s, Reach T i s → s ∈ S := by
    intro s r
    induction r with
    | start => exact h.st
    | step _ ht hx hr hg ih => exact (hd _ ih).2 ht _ hx _ hr hg
  constructor
  · intro hk
    obtain ⟨x, hx⟩ := h.kr k hk
    exact ⟨x, h.reach _ hx⟩
  · rintro ⟨x, hx⟩
    exact (hd _ (all _ hx)).1 rfl
/-! ranks -/
def dig (N x : Nat) : Nat := (N >>> (5 * x)) % 32
def rho (R : List Nat) (g x t k : Nat) : Nat := if 2 ≤ t then (if k = g then 1 else 0) else if k = 0 then dig (R.getD (2 * g + t) 0) x else if k = g then dig (R.getD t 0) x else 0
def rowB (R : List Nat) (g x t k : Nat) (row : List (Nat × Nat × Nat)) : Bool :=
  let r := rho R g x t k
  let vs := (row.filter fun r => decide (r.2.1 = 0) || decide (k = 0)).map fun r => rho R g r.1 (t + r.2.2) (if r.2.1 = 0 then k else r.2.1)
  if r = 0 then vs.all fun v => decide (v = 0) else vs.any fun v => decide (v ≠ 0) && decide (v < r)
def rankB (T : Tab) (R : List Nat) : Bool := T.zipIdx.all fun rx => (List.range 4).all fun g => (List.range 2).all fun t => (List.range 4).all fun k => rowB R g rx.2 t k rx.1
theorem rank_ok {T : Tab} {R : List Nat} (h : rankB T R = true) {g x t k : Nat} {row : List (Nat × Nat × Nat)} (hg : g < 4) (hx : T[x]? = some row) (ht : t < 2) (hk : k < 4) : rowB R g x t k row = true := by
  have h1 := List.all_eq_true.mp h (row, x) (List.mem_zipIdx_iff_getElem?.mpr hx)
  have h2 := List.all_eq_true.mp h1 g (List.mem_range.mpr hg)
  have h3 := List.all_eq_true.mp h2 t (List.mem_range.mpr ht)
  exact List.all_eq_true.mp h3 k (List.mem_range.mpr hk)
theorem reach_rank {T : Tab} {R : List Nat} (ok : TOk T) (h : rankB T R = true) {i : Nat} (hi : i < T.length) {g : Nat} (hg : g < 4) : (∃ x, Reach T i (x, 2, g)) ↔ rho R g i 0 0 ≠ 0 := by
  constructor
  · rintro ⟨x, hx⟩ e
    have all : ∀ s, Reach T i s → rho R g s.1 s.2.1 s.2.2 = 0 := by
      intro s r
      induction r with
      | start => exact e
      | @step x t k row r hr ht hx hm hgo ih =>
        have f := hr.fit ok hi
        have f2 : t ≤ 2 := f.2.1
        have hb := rank_ok h hg hx (show t < 2 by omega) f.2.2
        have ih : rho R g x t k = 0 := ih
        unfold rowB at hb
        simp only [ih, if_true] at hb
        have := List.all_eq_true.mp hb _ (List.mem_map.mpr ⟨r, List.mem_filter.mpr ⟨hm, by simpa using hgo⟩, rfl⟩)
        exact of_decide_eq_true this
    have := all _ hx
    simp [rho] at this
  · intro h0
    have key : ∀ (n : Nat) (s : St3), Reach T i s → rho R g s.1 s.2.1 s.2.2 ≠ 0 → rho R g s.1 s.2.1 s.2.2 < n → ∃ x, Reach T i (x, 2, g) := by
      intro n
      induction n with
      | zero => intro s _ _ hl; omega
      | succ n ih =>
        rintro ⟨x, t, k⟩ r h1 hl
        have f := r.fit ok hi
        have f2 : t ≤ 2 := f.2.1
        by_cases ht : t = 2
        · subst ht
          have h1 : rho R g x 2 k ≠ 0 := h1
          have : k = g := by
            refine Classical.byContradiction fun z => h1 ?_
            simp [rho, z]
          exact ⟨x, this ▸ r⟩
        · have fx : x < T.length := f.1
          have hx : T[x]? = some T[x] := List.getElem?_eq_getElem fx
          have hb := rank_ok h hg hx (show t < 2 by omega) f.2.2
          have h1 : ¬ rho R g x t k = 0 := h1
          unfold rowB at hb
          simp only [h1, if_false] at hb
          obtain ⟨v, hv, hv2⟩ := List.any_eq_true.mp hb
          obtain ⟨rr, hr, rfl⟩ := List.mem_map.mp hv
          obtain ⟨hm, hgo⟩ := List.mem_filter.mp hr
          simp only [Bool.and_eq_true, decide_eq_true_eq] at hv2
          have hl : rho R g x t k < n + 1 := hl
          refine ih (nextS rr t k) (.step r ht hx hm (by simpa using hgo)) hv2.1 ?_
          show rho R g rr.1 (t + rr.2.2) (if rr.2.1 = 0 then k else rr.2.1) < n
          omega
    exact key _ _ .start h0 (Nat.lt_succ_self _)
theorem kt_ranks : ∀ L ∈ smallL, rankB (ktOf L) (rkOf L) = true := small_cases (by decide +kernel) (by decide +kernel) (by decide +kernel)
def tokB (T : Tab) : Bool := decide (T.length ≤ 300) && T.all fun row => decide (row.length ≤ 20) && row.all fun r => decide (r.1 < T.length) && decide (r.2.1 < 4) && decide (r.2.2 ≤ 1)
theorem tokB_ok {T : Tab} (h : tokB T = true) : TOk T := by
  unfold tokB at h
  rw [Bool.and_eq_true, List.all_eq_true] at h
  refine ⟨of_decide_eq_true h.1, fun row hr => ?_⟩
  have h2 := h.2 row hr
  rw [Bool.and_eq_true, List.all_eq_true] at h2
  refine ⟨of_decide_eq_true h2.1, fun r hm => ?_⟩
  have h3 := h2.2 r hm
  simp only [Bool.and_eq_true, decide_eq_true_eq] at h3
  exact ⟨h3.1.1, h3.1.2, h3.2⟩
theorem kt_tok : ∀ L ∈ smallL, TOk (ktOf L) := small_cases (tokB_ok (by decide +kernel)) (tokB_ok (by decide +kernel)) (tokB_ok (by decide +kernel))
/-! the law of the small links -/
def lawB (L : Lk) : Bool := (csOf L).zipIdx.all fun ci => let c := ci.1
  decide ((rho (rkOf L) 0 ci.2 0 0 ≠ 0) ↔ c.must = 0) && (decide (c.must = 0) || [1, 2, 3].all fun g => decide ((rho (rkOf L) g ci.2 0 0 ≠ 0) ↔ kS g ∈ firstsM c.even c.done (c.enA L) (c.enO L)))
theorem lawB_ok : ∀ L ∈ smallL, lawB L = true := small_cases (by decide +kernel) (by decide +kernel) (by decide +kernel)
end Hw

set_option Elab.async false
set_option linter.all false
set_option maxRecDepth 100000
set_option maxHeartbeats 4000000
/-! HS: the law's own search. -/
namespace Hw
open PySem PySem.Spec PyProof.Rows L2
def dSt (s : St3) : PyData := .tuple [.int s.1, .int s.2.1, .str (kS s.2.2)]
def dRow (r : Nat × Nat × Nat) : PyData := .tuple [.int r.1, dW (wS r.2.1), .int r.2.2]
def keySt (s : St3) : NestedKey := .tup [.num s.1, .num s.2.1, .text (kS s.2.2)]
theorem keyD_dSt (s : St3) : keyD (dSt s) = keySt s := rfl
theorem kS_inj {a b : Nat} (ha : a < 4) (hb : b < 4) (h : kS a = kS b) : a = b := by
  have key : ∀ a < 4, ∀ b < 4, kS a = kS b → a = b := by decide +kernel
  exact key a ha b hb h
theorem keySt_inj {s t : St3} (hs : s.2.2 < 4) (ht : t.2.2 < 4) (h : keySt s = keySt t) : s = t := by
  obtain ⟨x, a, k⟩ := s
  obtain ⟨y, b, l⟩ := t
  unfold keySt at h
  simp only [NestedKey.tup.injEq, List.cons.injEq, NestedKey.num.injEq, NestedKey.text.injEq, and_true] at h
  obtain ⟨h1, h2, h3⟩ := h
  have h4 := kS_inj hs ht h3
  have h1 : x = y := by omega
  have h2 : a = b := by omega
  simp only at h4
  rw [h1, h2, h4]
theorem atN_isSome {xs : List NEnt} {k : NestedKey} : (atN xs k).isSome = decide (k ∈ xs.map (·.1)) := by
  induction xs with
  | nil => rfl
  | cons p ps ih =>
    unfold atN at *
    rw [List.find?_cons]
    by_cases e : p.1 = k
    · rw [decide_eq_true e]; simp [e]
    · rw [decide_eq_false e]
      have e' : ¬ k = p.1 := fun z => e z.symm
      show ((ps.find? fun x => decide (x.1 = k)).map (·.2.2)).isSome = _
      rw [ih]
      simp [e']
theorem gr_nd {P : Program} {w : World} {H : Hp} {p : Addr} {o : HO} {xs : List NEnt} (h : H p = some (ndO P w p xs)) : Gr H (upd H p o) :=
  ⟨fun a ys e => by rw [upd_ne (ne_of e h (fun z => by unfold ndO at z; cases z))]; exact e, fun a ob u e => by rw [upd_ne (ne_of e h (fun z => by unfold ndO at z; cases z))]; exact e⟩
theorem TpA.snoc_inv {K : PySem.W.Frag} {H : Hp} : ∀ {ds : List PyData} {d : PyData} {vs : List V}, TpA K H vs (ds ++ [d]) → ∃ ws y, vs = ws ++ [y] ∧ TpA K H ws ds ∧ Tp K H y d
  | [], d, vs, h => by
    cases h with
    | cons h1 h2 => cases h2; exact ⟨[], _, rfl, .nil, h1⟩
  | e :: ds, d, vs, h => by
    cases h with
    | cons h1 h2 =>
      obtain ⟨ws, y, rfl, h3, h4⟩ := TpA.snoc_inv h2
      exact ⟨_ :: ws, y, rfl, .cons h1 h3, h4⟩
theorem sts_lay : ∀ l : List St3, (∀ s ∈ l, s.2.2 < 4) → PyData.canLayAll0 (l.map dSt) = true
  | [], _ => rfl
  | s :: l, h => by
    show (PyData.canLay0 (dSt s) && PyData.canLayAll0 _) = true
    rw [sts_lay l fun t ht => h t (List.mem_cons_of_mem _ ht), Bool.and_true]
    have hk := h s List.mem_cons_self
    have key : ∀ k < 4, PyData.canLay0 (.str (kS k)) = true := by decide +kernel
    have hk2 := key _ hk
    show (PyData.canLay0 (.int s.1) && (PyData.canLay0 (.int s.2.1) && (PyData.canLay0 (.str (kS s.2.2)) && true))) = true
    rw [hk2]; rfl
theorem sts_depth : ∀ l : List St3, PyData.depthAll (l.map dSt) ≤ 1
  | [] => Nat.zero_le _
  | s :: l => by
    show max (PyData.depth (dSt s)) (PyData.depthAll (l.map dSt)) ≤ 1
    have h1 := sts_depth l
    have h2 : PyData.depth (dSt s) = 1 := rfl
    rw [h2]; omega
theorem sts_shaped (l : List St3) (h : ∀ s ∈ l, s.2.2 < 4) : SeqAt.shaped (.list (l.map dSt)) = true := by
  unfold SeqAt.shaped
  rw [Bool.and_eq_true]
  refine ⟨sts_lay l h, decide_eq_true ?_⟩
  show PyData.depthAll _ + 1 ≤ 64
  have := sts_depth l
  omega
/-- the search's heap -/
structure SH (P : Program) (w : World) (K : PySem.W.Frag) (H0 : Hp) (sd q kl : Addr) (H : Hp) (S Q : List St3) (ks : List Nat) (ents : List NEnt) (vs : List V) : Prop where
  same : Same H0 H
  hs : H sd = some (ndO P w sd ents)
  hk : ents.map (·.1) = S.map keySt
  nk : NKeys K H ents
  hq : H q = some (.lst vs)
  tq : TpA K H vs (Q.map dSt)
  hl : H kl = some (.lst ((ks.map kS).map V.str))
section
variable {P : Program} {w : World} {K : PySem.W.Frag} {H0 H H' : Hp} {sd q kl : Addr} {S Q : List St3} {ks : List Nat} {ents : List NEnt} {vs : List V}
theorem SH.sameTo (h : SH P w K H0 sd q kl H S Q ks ents vs) (s : Same H H') : SH P w K H0 sd q kl H' S Q ks ents vs :=
  ⟨h.same.trans s, s _ _ h.hs, h.hk, h.nk.gr s.gr, s _ _ h.hq, h.tq.gr s.gr, s _ _ h.hl⟩
theorem SH.nsq (h : SH P w K H0 sd q kl H S Q ks ents vs) : sd ≠ q := ne_of h.hs h.hq (fun z => by unfold ndO at z; cases z)
theorem SH.nsk (h : SH P w K H0 sd q kl H S Q ks ents vs) : sd ≠ kl := ne_of h.hs h.hl (fun z => by unfold ndO at z; cases z)
theorem SH.setQ {vs' : List V} {Q' : List St3} (h : SH P w K H0 sd q kl H S Q ks ents vs) (n0 : H0 q = none) (nqk : q ≠ kl) (t : TpA K H vs' (Q'.map dSt)) : SH P w K H0 sd q kl (upd H q (.lst vs')) S Q' ks ents vs' :=
  ⟨same_mut h.same n0, by rw [upd_ne h.nsq]; exact h.hs, h.hk, h.nk.gr (gr_lst h.hq), upd_same, t.gr (gr_lst h.hq), by rw [upd_ne nqk.symm]; exact h.hl⟩
theorem SH.setK {ks' : List Nat} (h : SH P w K H0 sd q kl H S Q ks ents vs) (n0 : H0 kl = none) (nqk : q ≠ kl) : SH P w K H0 sd q kl (upd H kl (.lst ((ks'.map kS).map V.str))) S Q ks' ents vs :=
  ⟨same_mut h.same n0, by rw [upd_ne h.nsk]; exact h.hs, h.hk, h.nk.gr (gr_lst h.hl), by rw [upd_ne nqk]; exact h.hq, h.tq.gr (gr_lst h.hl), upd_same⟩
theorem SH.setS {s : St3} {a : Addr} {v : V} (h : SH P w K H0 sd q kl H S Q ks ents vs) (n0 : H0 sd = none) (t : Tp K H (.ref a) (dSt s)) (hd : (keySt s).depth ≤ 8) :
    SH P w K H0 sd q kl (upd H sd (ndO P w sd (ents ++ [(keySt s, a, v)]))) (S ++ [s]) Q ks (ents ++ [(keySt s, a, v)]) vs :=
  ⟨same_mut h.same n0, upd_same, by rw [List.map_append, List.map_append, h.hk]; rfl, NKeys.snoc (h.nk.gr (gr_nd h.hs)) ⟨_, t.gr (gr_nd h.hs), rfl, hd⟩, by rw [upd_ne h.nsq.symm]; exact h.hq, h.tq.gr (gr_nd h.hs), by rw [upd_ne h.nsk.symm]; exact h.hl⟩
end
theorem keySt_depth (s : St3) : (keySt s).depth ≤ 8 := by
  show max 0 (max 0 (max 0 0)) + 1 ≤ 8
  decide
theorem eqv_ne {Q : List St3} (h : Q ≠ []) : PyData.eqv (.list (Q.map dSt)) (.list []) = false := by
  cases Q with
  | nil => exact absurd rfl h
  | cons a l => rfl
theorem snoc_or : ∀ Q : List St3, Q = [] ∨ ∃ Q' s, Q = Q' ++ [s]
  | [] => .inl rfl
  | a :: l => .inr (by
    rcases snoc_or l with rfl | ⟨Q', s, rfl⟩
    · exact ⟨[], a, rfl⟩
    · exact ⟨a :: Q', s, rfl⟩)
theorem test_eqI {σ : L2.St} {H : Hp} {Q : Bool → Hp → Prop} {a : Nat} {i j : Int} {b : Bool} (hσ : σ[a]? = some (some (.int i))) (h : decide (i = j) = b) (q : Q b H) : tTest (tOp rEq (tVar a) (tC (.int j))) σ H Q := by
  refine ⟨.int i, hσ, rfl, _, rfl, ?_⟩
  rw [decide_eq_decide.mpr (show (V.int i = V.int j) ↔ i = j from ⟨fun z => V.int.inj z, fun z => by rw [z]⟩), h]
  exact q
theorem envNone {K : PySem.W.Frag} {H : Hp} (σ : L2.St) : EnvD K H σ (List.replicate σ.length none) := ⟨by simp, fun i A e => by
  rw [List.getElem?_replicate] at e
  split at e <;> cases e⟩
theorem ed_kind {K : PySem.W.Frag} {Γ : Cty} {a b wr k : Nat} (h1 : EvD K (tVar a) Γ (.str (kS k))) (h2 : EvD K (tVar b) Γ (dW (wS wr))) : EvD K (tIf (tB (tIsN (tVar b))) (tVar a) (tVar b)) Γ (.str (kS (if wr = 0 then k else wr))) := by
  cases wr with
  | zero => exact ed_ifT (EvB.is (eb_val (ed_isN (d := .none) h2)) rfl) h1
  | succ n => exact ed_ifF (EvB.is (eb_val (ed_isN (d := .str (kS (n + 1))) h2)) rfl) h2
theorem ed_addN {K : PySem.W.Frag} {Γ : Cty} {ta tb : TE} {a b : Nat} (h1 : EvD K ta Γ (.int a)) (h2 : EvD K tb Γ (.int b)) : EvD K (tOp (rI0 fun i j => .int (i + j)) ta tb) Γ (.int (a + b : Nat)) := (ed_II h1 h2).is (congrArg PyData.int (by omega))
theorem seq_asgD {K : PySem.W.Frag} {Γ : Cty} {te : TE} {i : Nat} {u : TS} {D : Ends} {σ : L2.St} {H : Hp} {d : PyData} (h : EvD K te Γ d) (E : EnvD K H σ Γ) (k : ∀ v H', Same H H' → Tp K H' v d → u D (σ.set i (some v)) H') : tSeq (tAsg te (gName i)) u D σ H := h σ H E _ fun v H1 s t => k v H1 s t
theorem eb_goes {K : PySem.W.Frag} {Γ : Cty} {a b wr k : Nat} (hk : k < 4) (h1 : EvD K (tVar a) Γ (.str (kS k))) (h2 : EvD K (tVar b) Γ (dW (wS wr))) : EvB K (tOr (tB (tIsN (tVar b))) (tTest (tOp rEq (tVar a) (tC (.str ""))))) Γ (decide (wr = 0) || decide (k = 0)) := by
  have key : ∀ k < 4, decide (kS k = "") = decide (k = 0) := by decide +kernel
  cases wr with
  | zero => exact eb_orT (EvB.is (eb_val (ed_isN (d := .none) h2)) rfl)
  | succ n => exact EvB.is (eb_orF (EvB.is (eb_val (ed_isN (d := .str (kS (n + 1))) h2)) rfl) (EvB.is (eb_test (ed_eqS h1 ed_str)) (key k hk))) (by simp)
theorem start_sh {P : Program} {w : World} {K : PySem.W.Frag} {H : Hp} {sd a1 a2 q kl : Addr} {i : Nat} (hsd : H sd = none) (ha1 : upd H sd (ndO P w sd []) a1 = none)
    (ha2 : upd (upd (upd H sd (ndO P w sd [])) a1 (.tup [.int i, .int 0, .str ""])) sd (ndO P w sd [(keySt (i, 0, 0), a1, .bl true)]) a2 = none)
    (hq : upd (upd (upd (upd H sd (ndO P w sd [])) a1 (.tup [.int i, .int 0, .str ""])) sd (ndO P w sd [(keySt (i, 0, 0), a1, .bl true)])) a2 (.tup [.int i, .int 0, .str ""]) q = none)
    (hkl : upd (upd (upd (upd (upd H sd (ndO P w sd [])) a1 (.tup [.int i, .int 0, .str ""])) sd (ndO P w sd [(keySt (i, 0, 0), a1, .bl true)])) a2 (.tup [.int i, .int 0, .str ""])) q (.lst [.ref a2]) kl = none) :
    SH P w K H sd q kl (upd (upd (upd (upd (upd (upd H sd (ndO P w sd [])) a1 (.tup [.int i, .int 0, .str ""])) sd (ndO P w sd [(keySt (i, 0, 0), a1, .bl true)])) a2 (.tup [.int i, .int 0, .str ""])) q (.lst [.ref a2])) kl (.lst []))
      [(i, 0, 0)] [(i, 0, 0)] [] [(keySt (i, 0, 0), a1, .bl true)] [.ref a2] ∧ H q = none ∧ H kl = none ∧ q ≠ kl := by
  have sB : Same H (upd (upd H sd (ndO P w sd [])) a1 (.tup [.int i, .int 0, .str ""])) := (same_new hsd).trans (same_new ha1)
  have tB1 : Tp K (upd (upd H sd (ndO P w sd [])) a1 (.tup [.int i, .int 0, .str ""])) (.ref a1) (dSt (i, 0, 0)) := .tup (SqT.of upd_same) (.cons (.int _) (.cons (.int _) (.cons (.str _) .nil)))
  have hBs : upd (upd H sd (ndO P w sd [])) a1 (.tup [.int i, .int 0, .str ""]) sd = some (ndO P w sd []) := by rw [upd_ne (ne_of_none upd_same ha1)]; exact upd_same
  generalize upd (upd H sd (ndO P w sd [])) a1 (.tup [.int i, .int 0, .str ""]) = HB at *
  have gC : Gr HB (upd HB sd (ndO P w sd [(keySt (i, 0, 0), a1, .bl true)])) := gr_nd hBs
  have sC : Same H (upd HB sd (ndO P w sd [(keySt (i, 0, 0), a1, .bl true)])) := same_mut sB hsd
  have hCs : upd HB sd (ndO P w sd [(keySt (i, 0, 0), a1, .bl true)]) sd = some (ndO P w sd [(keySt (i, 0, 0), a1, .bl true)]) := upd_same
  have tC1 := tB1.gr gC
  generalize upd HB sd (ndO P w sd [(keySt (i, 0, 0), a1, .bl true)]) = HC at *
  have sD : Same HC (upd HC a2 (.tup [.int i, .int 0, .str ""])) := same_new ha2
  have tD2 : Tp K (upd HC a2 (.tup [.int i, .int 0, .str ""])) (.ref a2) (dSt (i, 0, 0)) := .tup (SqT.of upd_same) (.cons (.int _) (.cons (.int _) (.cons (.str _) .nil)))
  generalize upd HC a2 (.tup [.int i, .int 0, .str ""]) = HD at *
  have sE : Same HD (upd HD q (.lst [.ref a2])) := same_new hq
  have sF : Same (upd HD q (.lst [.ref a2])) (upd (upd HD q (.lst [.ref a2])) kl (.lst [])) := same_new hkl
  refine ⟨⟨((sC.trans sD).trans sE).trans sF, sF _ _ (sE _ _ (sD _ _ hCs)), rfl, fun x hx => ?_, sF _ _ upd_same, .cons ((tD2.gr sE.gr).gr sF.gr) .nil, upd_same⟩, (sC.trans sD).free hq, ((sC.trans sD).trans sE).free hkl, ne_of_none upd_same hkl⟩
  rw [List.mem_singleton.mp hx]
  exact ⟨_, ((tC1.gr sD.gr).gr sE.gr).gr sF.gr, rfl, keySt_depth _⟩
def spSpread (K : PySem.W.Frag) : Sp := fun vs H Q _ => ∃ ps i T qs, vs = [.ref ps, .int (i : Nat)] ∧ TOk T ∧ i < T.length ∧ H ps = some (.lst (qs.map V.ref)) ∧ Paired (fun a row => ∃ xs, H a = some (.lst xs) ∧ TpA K H xs (row.map dRow)) qs T ∧
  ∀ p ys H', H p = none → Same H H' → H' p = some (.lst (ys.map V.str)) → sortedS ys = true → ys.Nodup → (∀ y, y ∈ ys ↔ ∃ k x, k < 4 ∧ Reach T i (x, 2, k) ∧ y = kS k) → Q (.ref p) H'
section
variable {P : Program} {w : World} {K : PySem.W.Frag} {mg : Str → Option Value} {base : Heap} {f : Addr} {fd : FuncData}
abbrev s__law_spread : Stmt := topS 56
theorem sc__law_spread : FnScope ["_law_steps", "_law_start", "_law_seen", "_law_queue", "_law_kinds_there", "_law_at", "_law_turns", "_law_kind", "_law_later", "_law_wrong", "_law_ends", "_law_item"] ["_law_steps", "_law_start"] (defScope s__law_spread) := ⟨rfl, rfl, rfl, by decide +kernel, rfl, by decide +kernel, by decide +kernel⟩
theorem ok_spread (F : Fun K "_law_spread" "_law_spread" s__law_spread f fd) (B : Bt mg) : FnOk P w K mg base CX0 1 f fd ["_law_steps", "_law_start"] (spSpread K) := by
  refine F.ok sc__law_spread (fun vs H Q E h => by obtain ⟨_, _, _, _, e, _⟩ := h; rw [e]; rfl) (fun cdv A outer s H vs Q E hr h => ?_)
  obtain ⟨ps, i, T, qs, rfl, ok, hi, hps, hpr, fin⟩ := h
  refine ⟨_, (pss_cons (ps_par3 (i := 2) (j := 3) (l := 4) rfl sc__law_spread.nd rfl rfl rfl (by decide) (by decide) (by decide) rfl rfl rfl (pa_cons (pe_oneN hr.units (pe_tup (pa_cons (pv 1) (pa_cons pe_int (pa_cons pe_str pa_nil)))) pe_bl) (pa_cons (pe_lst (pa_cons (pe_tup (pa_cons (pv 1) (pa_cons pe_int (pa_cons pe_str pa_nil)))) pa_nil)) (pa_cons (pe_lst pa_nil) pa_nil))) (by rfl))
        (pss_cons (ps_while PassesOwn.never (pt_cmpR (op_neD hr.units) (pv 3) (pe_lst pa_nil) (nomark _))
         (pss_cons (ps_asg (pe_bm0 PySem.F.plainAttrs_list PySem.F.slot_list_pop PySem.F.type_list_pop mt_pop (pv 3)) (pg_tup rfl (pgs_cons (pg_name (i := 5) sc__law_spread.nd rfl (.inl rfl)) (pgs_cons (pg_name (i := 6) sc__law_spread.nd rfl (.inl rfl)) (pgs_cons (pg_name (i := 7) sc__law_spread.nd rfl (.inl rfl)) pgs_nil)))))
          (pss_cons (ps_if (pt_cmpR op_eq (pv 6) pe_int (nomark _))
           (pss_cons (ps_if (pt_cmpR op_notIn_seq (pv 7) (pv 4) (by rfl))
             (pss_one (ps_expr (pe_bm PySem.F.plainAttrs_list PySem.F.slot_list_append PySem.F.type_list_append mt_append (pv 4) (pa_cons (pv 7) pa_nil))))
             pss_nil)
            (pss_one ps_continue))
           pss_nil)
          (pss_one (ps_for PassesOwn.never rfl (pi_list (pe_ix ix_list (pv 0) (pv 5) (fun _ _ => rfl))) (pg_tup rfl (pgs_cons (pg_name (i := 8) sc__law_spread.nd rfl (.inl rfl)) (pgs_cons (pg_name (i := 9) sc__law_spread.nd rfl (.inl rfl)) (pgs_cons (pg_name (i := 10) sc__law_spread.nd rfl (.inl rfl)) pgs_nil))))
           (pss_one (ps_if (PW.pt (pw_or (pt_cmp (pc_isN (pv 9)) rfl) (pw_or1 (pt_cmpR op_eq (pv 7) pe_str (nomark _)))))
             (pss_cons (ps_set (i := 11) sc__law_spread.nd rfl (.inl rfl) (pe_tup (pa_cons (pv 8) (pa_cons (pe_op op_add (pv 6) (pv 10)) (pa_cons (pe_ifExp (pt_cmp (pc_isN (pv 9)) rfl) (pv 7) (pv 9)) pa_nil)))))
              (pss_one (ps_if (pt_cmpR (op_ninN hr.units) (pv 11) (pv 2) (by rfl))
               (pss_cons (ps_asg pe_bl (pg_sub (pv 2) (pv 11) (set_nd hr.units)))
                (pss_one (ps_expr (pe_bm PySem.F.plainAttrs_list PySem.F.slot_list_append PySem.F.type_list_append mt_append (pv 3) (pa_cons (pv 11) pa_nil)))))
               pss_nil)))
             pss_nil)))))))
        (pss_one (ps_ret (pe_callB cr_sortedS (by rfl) B.sorted (by decide +kernel) (pa_cons (pv 4) pa_nil)))))), ?_⟩
  have hi0 : ∀ H', Tp K H' (.int (i : Nat)) (.int (i : Nat)) := fun _ => .int _
  -- seen, queue, kinds
  intro sd hsd hmod
  refine ⟨.int i, rfl, (by decide : 3 ≤ sizeLine), fun a1 ha1 => ⟨a1, keySt (i, 0, 0), rfl, ?_, ⟨dSt (i, 0, 0), ?_, rfl, keySt_depth _⟩, ?_⟩⟩
  · rw [upd_ne (ne_of_none upd_same ha1)]; exact upd_same
  · exact .tup (SqT.of upd_same) (.cons (.int _) (.cons (.int _) (.cons (.str _) .nil)))
  refine ⟨.int i, rfl, (by decide : 3 ≤ sizeLine), fun a2 ha2 => ⟨(by decide : 1 ≤ sizeLine), fun q hq => ⟨Nat.zero_le _, fun kl hkl => ⟨_, _, _, rfl, ?_⟩⟩⟩⟩
  obtain ⟨sh0, hq0, hkl0, nqk⟩ := start_sh (P := P) (w := w) (K := K) (i := i) hsd ha1 ha2 hq hkl
  have si0 : SI T i [(i, 0, 0)] [(i, 0, 0)] [] := ⟨by simp, fun s hs => by rw [List.mem_singleton.mp hs]; exact .start, by simp, fun s hs => hs, .nil, fun k hk => nomatch hk⟩
  -- the queue
  have hn12 : 12 * T.length ≤ 3600 := by have := ok.len; omega
  refine ⟨fun m σ H1 => ∃ S Q ks ents vs o5 o6 o7 o8 o9 o10 o11, σ = [some (.ref ps), some (.int i), some (.ref sd), some (.ref q), some (.ref kl), o5, o6, o7, o8, o9, o10, o11] ∧ SH P w K H sd q kl H1 S Q ks ents vs ∧ SI T i S Q ks ∧ (∀ s ∈ S, s ∈ Q ∨ Done T S ks s) ∧ Q.length ≤ S.length ∧ m + 2 * S.length = 24 * T.length + Q.length,
    ⟨24 * T.length + 1 - 2, [(i, 0, 0)], [(i, 0, 0)], [], _, _, none, none, none, none, none, none, none, rfl, sh0, si0, fun s hs => .inl hs, Nat.le_refl _, by simp only [List.length_cons, List.length_nil]; omega⟩, ?_⟩
  rintro m σ H1 ⟨S, Q, ks, ents, vs, o5, o6, o7, o8, o9, o10, o11, rfl, sh, si, hd, hQS, hm⟩
  have hSl := si.len ok hi
  have fitQ : ∀ s ∈ Q, s.2.2 < 4 := fun s hs => ((si.reach s (si.qs s hs)).fit ok hi).2.2
  refine ⟨.ref q, rfl, Nat.zero_le _, fun r hr => ⟨.list (Q.map dSt), .list [], .lst (SqL.of ((same_new hr) _ _ sh.hq)) (sh.tq.gr (same_new hr).gr).dp, .lst (SqL.of upd_same) .nil, sts_shaped Q fitQ, by decide, _, rfl, ?_⟩⟩
  have sh1 := sh.sameTo (same_new (o := .lst []) hr)
  clear sh
  generalize upd H1 r (.lst []) = H2 at sh1 ⊢
  rcases snoc_or Q with rfl | ⟨Q0, s0, rfl⟩
  · -- the end
    refine iteF ⟨.ref kl, rfl, kl, ks.map kS, rfl, SqL.of sh1.hl, by rw [List.length_map]; have := si.klen ok hi; omega, fun ys p hperm hsort hp => ?_⟩
    have hfin := si.final fun s hs => (hd s hs).elim (fun z => nomatch z) id
    refine fin p ys _ (sh1.same.free hp) (sh1.same.trans (same_new hp)) upd_same hsort ?_ fun y => ?_
    · refine hperm.nodup_iff.mpr (List.pairwise_map.mpr (si.kd.imp_of_mem fun {a b} ha hb hne e => hne (kS_inj (si.klt ok hi a ha) (si.klt ok hi b hb) e)))
    · rw [hperm.mem_iff, List.mem_map]
      constructor
      · rintro ⟨k, hk, rfl⟩
        obtain ⟨x, hx⟩ := (hfin k).mp hk
        exact ⟨k, x, si.klt ok hi k hk, hx, rfl⟩
      · rintro ⟨k, x, _, hx, rfl⟩
        exact ⟨k, (hfin k).mpr ⟨x, hx⟩, rfl⟩
  · rw [eqv_ne (by simp)]
    refine iteT ⟨fun σ' H' => ∃ m', m' < m ∧ ∃ S Q ks ents vs o5 o6 o7 o8 o9 o10 o11, σ' = [some (.ref ps), some (.int i), some (.ref sd), some (.ref q), some (.ref kl), o5, o6, o7, o8, o9, o10, o11] ∧ SH P w K H sd q kl H' S Q ks ents vs ∧ SI T i S Q ks ∧ (∀ s ∈ S, s ∈ Q ∨ Done T S ks s) ∧ Q.length ≤ S.length ∧ m' + 2 * S.length = 24 * T.length + Q.length, fun σ' H' h => h, ?_⟩
    have hs0 : s0 ∈ S := si.qs s0 (by simp)
    have f0 := (si.reach s0 hs0).fit ok hi
    have hr0 := si.reach s0 hs0
    have tq := sh1.tq
    rw [List.map_append] at tq
    obtain ⟨vs0, y0, rfl, tq0, ty0⟩ := TpA.snoc_inv tq
    refine ⟨.ref q, rfl, .inl ⟨rfl, _, SqL.of sh1.hq⟩, q, _, y0, rfl, rfl, sh1.hq, by simp, ?_⟩
    rw [List.dropLast_concat]
    have gq : Gr H2 (upd H2 q (.lst vs0)) := gr_lst sh1.hq
    have sh := sh1.setQ (Q' := Q0) hq0 nqk tq0
    have ty1 := ty0.gr gq
    have si2 : SI T i S Q0 ks := ⟨si.nd, si.reach, si.st, fun s hs => si.qs s (List.mem_append_left _ hs), si.kd, si.kr⟩
    clear si gq sh1 ty0 tq0 tq
    have si := si2
    clear si2
    generalize upd H2 q (.lst vs0) = H3 at sh ty1 ⊢
    have ty0 := ty1
    clear ty1
    obtain ⟨x0, t0, k0⟩ := s0
    obtain ⟨a0, xs0, rfl, hx0, hxs0⟩ := ty0.tup_inv
    have hxs0 : xs0 = [.int x0, .int t0, .str (kS k0)] := by
      cases hxs0 with
      | cons h1 h => cases h with
        | cons h2 h => cases h with
          | cons h3 h => cases h; rw [h1.int_inv, h2.int_inv, h3.str_inv]
    subst hxs0
    refine ⟨a0, _, rfl, hx0, rfl, _, _, rfl, _, _, rfl, _, _, rfl, rfl, ?_⟩
    rw [List.length_append, List.length_singleton] at hQS hm
    by_cases ht : t0 = 2
    · subst ht
      refine test_eqI (i := ((2 : Nat) : Int)) (b := true) rfl rfl (iteT ?_)
      refine ⟨.str (kS k0), rfl, .ref kl, rfl, kl, _, rfl, .inl (SqL.of sh.hl), rfl, flat_strs _, _, rfl, ?_⟩
      rw [if_pos rfl, inV_str]
      by_cases hk : k0 ∈ ks
      · have hk2 : kS k0 ∈ ks.map kS := List.mem_map.mpr ⟨k0, hk, rfl⟩
        rw [decide_eq_true hk2]
        refine iteF ⟨m - 1, by omega, S, Q0, ks, ents, _, _, _, _, _, _, _, _, rfl, sh, si, fun s hs => ?_, by omega, by omega⟩
        rcases hd s hs with z | z
        · rcases List.mem_append.mp z with z | z
          · exact .inl z
          · rw [List.mem_singleton.mp z]; exact .inr ⟨fun _ => hk, fun e => absurd rfl e⟩
        · exact .inr z
      · have hk2 : kS k0 ∉ ks.map kS := fun z => by
          obtain ⟨k1, h1, h2⟩ := List.mem_map.mp z
          have e : k1 = k0 := kS_inj (si.klt ok hi k1 h1) f0.2.2 h2
          exact hk (by rw [← e]; exact h1)
        rw [decide_eq_false hk2]
        refine iteT ⟨.ref kl, rfl, .inl ⟨rfl, _, SqL.of sh.hl⟩, .str (kS k0), rfl, kl, _, _, rfl, rfl, sh.hl, ?_, ?_⟩
        · rw [List.length_map, List.length_map]
          exact Nat.lt_of_le_of_lt (si.klen ok hi) (by decide)
        have sh := sh.setK (ks' := ks ++ [k0]) hkl0 nqk
        rw [List.map_append, List.map_append] at sh
        refine ⟨m - 1, by omega, S, Q0, ks ++ [k0], ents, _, _, _, _, _, _, _, _, rfl, sh, ⟨si.nd, si.reach, si.st, si.qs, ?_, ?_⟩, fun s hs => ?_, by omega, by omega⟩
        · exact List.nodup_append.mpr ⟨si.kd, by simp, fun a ha b hb e => hk (by rw [← List.mem_singleton.mp hb, ← e]; exact ha)⟩
        · intro k h
          rcases List.mem_append.mp h with z | z
          · exact si.kr k z
          · rw [List.mem_singleton.mp z]; exact ⟨x0, hs0⟩
        · rcases hd s hs with z | z
          · rcases List.mem_append.mp z with z | z
            · exact .inl z
            · rw [List.mem_singleton.mp z]; exact .inr ⟨fun _ => by simp, fun e => absurd rfl e⟩
          · exact .inr (z.mono (fun _ h => h) fun k h => List.mem_append_left _ h)
    · refine test_eqI (i := (t0 : Int)) (b := false) rfl (decide_eq_false (by omega)) (iteF ?_)
      -- the row
      have hxl : x0 < T.length := f0.1
      have hql : qs.length = T.length := Paired.length hpr
      obtain ⟨ar, har⟩ : ∃ a, qs[x0]? = some a := ⟨qs[x0], by rw [List.getElem?_eq_getElem (by omega)]⟩
      obtain ⟨row, hrow, xr, hxr, txr⟩ := paired_get hpr har
      have hrl := (ok.row row (List.mem_of_getElem? hrow)).1
      refine ⟨.ref ps, rfl, .int x0, rfl, ps, qs.map V.ref, x0, .ref ar, rfl, rfl, SqL.of (sh.same _ _ hps), atI_nat (j := x0) (by rw [List.getElem?_map, har]; rfl), ar, rfl, ⟨xr, SqL.of (sh.same _ _ hxr)⟩, ?_⟩
      refine for_it (walk_list (K := K) (a := ar) (xs := xr)) (fun j σ' H' => ∃ S' Q' ents' vs' o8 o9 o10 o11, σ' = [some (.ref ps), some (.int i), some (.ref sd), some (.ref q), some (.ref kl), some (.int x0), some (.int t0), some (.str (kS k0)), o8, o9, o10, o11] ∧
        SH P w K H sd q kl H' S' Q' ks ents' vs' ∧ SI T i S' Q' ks ∧ (∀ s ∈ S', s ∈ Q' ∨ Done T S' ks s ∨ s = (x0, t0, k0)) ∧ (∀ r ∈ row.take j, (r.2.1 = 0 ∨ k0 = 0) → nextS r t0 k0 ∈ S') ∧ Q'.length + S.length = Q0.length + S'.length ∧ S.length ≤ S'.length)
        ⟨S, Q0, ents, vs0, _, _, _, _, rfl, sh, si, fun s hs => ?_, (by intro r hr; simp at hr), rfl, Nat.le_refl _⟩ (fun j σ' H' _ ⟨_, _, _, _, _, _, _, _, _, h, _⟩ => SqL.of (h.same _ _ hxr)) ?_ ?_
      · rcases hd s hs with z | z
        · rcases List.mem_append.mp z with z | z
          · exact .inl z
          · exact .inr (.inr (List.mem_singleton.mp z))
        · exact .inr (.inl z)
      · rintro j xv σ' H4 H5 hj ⟨S', Q', ents', vs', o8, o9, o10, o11, rfl, sh, si, hd, hrows, hcount, hSS⟩ ⟨rfl, hxv⟩
        obtain ⟨d, hdd, td⟩ := txr.getV hxv
        rw [List.getElem?_map] at hdd
        obtain ⟨rr, hrr, rfl⟩ := Option.map_eq_some_iff.mp hdd
        obtain ⟨y, wr, e⟩ := rr
        have td := td.gr sh.same.gr
        have hmem := List.mem_of_getElem? hrr
        have tk : row.take (j + 1) = row.take j ++ [(y, wr, e)] := by rw [List.take_add_one, hrr]; rfl
        obtain ⟨ai, xi, rfl, hxi, txi⟩ := td.tup_inv
        obtain ⟨v9, rfl, t9⟩ : ∃ v9, xi = [.int y, v9, .int e] ∧ Tp K H5 v9 (dW (wS wr)) := by
          cases txi with
          | cons h1 h => cases h with
            | cons h2 h => cases h with
              | cons h3 h => cases h; rw [h1.int_inv, h3.int_inv]; exact ⟨_, rfl, h2⟩
        refine ⟨ai, _, rfl, hxi, rfl, _, _, rfl, _, _, rfl, _, _, rfl, rfl, ?_⟩
        have hS2 := si.len ok hi
        have E5 : EnvD K H5 [some (.ref ps), some (.int i), some (.ref sd), some (.ref q), some (.ref kl), some (.int x0), some (.int t0), some (.str (kS k0)), some (.int y), some v9, some (.int e), o11]
            [none, none, none, none, none, none, some (.dat (.int t0)), some (.dat (.str (kS k0))), some (.dat (.int y)), some (.dat (dW (wS wr))), some (.dat (.int e)), none] :=
          (((((envNone (K := K) (H := H5) [some (.ref ps), some (.int i), some (.ref sd), some (.ref q), some (.ref kl), some (.int x0), some (.int t0), some (.str (kS k0)), some (.int y), some v9, some (.int e), o11]).set (A := .dat (.int t0)) 6 (.int _)).set (A := .dat (.str (kS k0))) 7 (.str _)).set (A := .dat (.int y)) 8 (.int _)).set (A := .dat (dW (wS wr))) 9 t9).set (A := .dat (.int e)) 10 (.int _)
        refine eb_goes (a := 7) (b := 9) (wr := wr) f0.2.2 (ed_var rfl) (ed_var rfl) _ H5 E5 _ fun H6 s6 => ?_
        have sh := sh.sameTo s6
        by_cases hg : wr = 0 ∨ k0 = 0
        · have hgb : (decide (wr = 0) || decide (k0 = 0)) = true := by simpa using hg
          rw [hgb]
          refine iteT ?_
          -- the item
          refine seq_asgD (ed_tup (K := K) (ds := [.int y, .int (t0 + e : Nat), .str (kS (if wr = 0 then k0 else wr))]) (ea_cons (ed_var (i := 8) rfl) (ea_cons (ed_addN (a := t0) (b := e) (ta := tVar 6) (tb := tVar 10) (ed_var rfl) (ed_var rfl)) (ea_cons (ed_kind (a := 7) (b := 9) (ed_var rfl) (ed_var rfl)) ea_nil))) (by simp)) (E5.gr s6.gr) fun vi H7 s7 ti => ?_
          have sh := sh.sameTo s7
          have ti : Tp K H7 vi (dSt (nextS (y, wr, e) t0 k0)) := ti
          generalize hnx : nextS (y, wr, e) t0 k0 = s1 at *
          obtain ⟨a1', xi', rfl, _, _⟩ := id ti.tup_inv
          have r1 : Reach T i s1 := by rw [← hnx]; exact .step hr0 ht hrow hmem hg
          have f1 := r1.fit ok hi
          have nk1 : NKey K H7 a1' (keySt s1) := ⟨dSt s1, ti, rfl, keySt_depth _⟩
          refine ⟨.ref a1', rfl, .ref sd, rfl, sd, ents', a1', keySt s1, rfl, rfl, hmod, sh.hs, sh.nk, nk1, _, rfl, ?_⟩
          have hat : (atN ents' (keySt s1)).isSome = decide (s1 ∈ S') := by
            rw [atN_isSome, sh.hk]
            refine decide_eq_decide.mpr ⟨fun z => ?_, fun z => List.mem_map.mpr ⟨s1, z, rfl⟩⟩
            obtain ⟨s2, h2, h3⟩ := List.mem_map.mp z
            exact keySt_inj ((si.reach s2 h2).fit ok hi).2.2 f1.2.2 h3 ▸ h2
          have hrow1 : ∀ {S2 : List St3}, (∀ s ∈ S', s ∈ S2) → s1 ∈ S2 → ∀ r ∈ row.take (j + 1), (r.2.1 = 0 ∨ k0 = 0) → nextS r t0 k0 ∈ S2 := by
            intro S2 h1 h2 r hr hgo
            rw [tk] at hr
            rcases List.mem_append.mp hr with z | z
            · exact h1 _ (hrows r z hgo)
            · rw [List.mem_singleton.mp z, hnx]; exact h2
          by_cases hin : s1 ∈ S'
          · rw [hat, decide_eq_true hin]
            exact iteF ⟨S', Q', ents', vs', _, _, _, _, rfl, sh, si, hd, hrow1 (fun _ h => h) hin, hcount, hSS⟩
          · have hnone : atN ents' (keySt s1) = none := by
              rw [decide_eq_false hin] at hat
              cases z : atN ents' (keySt s1) with
              | none => rfl
              | some v => rw [z] at hat; cases hat
            rw [hat, decide_eq_false hin]
            have hel : ents'.length = S'.length := by
              have := congrArg List.length sh.hk
              rwa [List.length_map, List.length_map] at this
            have hvl : vs'.length = Q'.length := by rw [sh.tq.length, List.length_map]
            refine iteT ⟨.ref sd, rfl, .ref a1', rfl, sd, ents', a1', keySt s1, rfl, rfl, sh.hs, sh.nk, nk1, hnone, by rw [hel]; exact Nat.le_trans (Nat.le_trans hS2 hn12) (by decide), ?_⟩
            have ti2 := ti.gr (gr_nd (o := ndO P w sd (ents' ++ [(keySt s1, a1', .bl true)])) sh.hs)
            have sh := sh.setS (v := .bl true) hsd ti (keySt_depth _)
            refine ⟨.ref q, rfl, .inl ⟨rfl, _, SqL.of sh.hq⟩, .ref a1', rfl, q, vs', .ref a1', rfl, rfl, sh.hq, ?_, ?_⟩
            · rw [hvl]
              exact Nat.lt_of_lt_of_le (show _ < 10000 by omega) (by decide)
            have sh := sh.setQ (vs' := vs' ++ [.ref a1']) (Q' := Q' ++ [s1]) hq0 nqk (by rw [List.map_append]; exact sh.tq.append (.cons ti2 .nil))
            refine ⟨S' ++ [s1], Q' ++ [s1], _, _, _, _, _, _, rfl, sh, ⟨?_, ?_, List.mem_append_left _ si.st, ?_, si.kd, ?_⟩, ?_, hrow1 (fun _ h => List.mem_append_left _ h) (by simp), by simp only [List.length_append, List.length_cons, List.length_nil]; omega, by rw [List.length_append]; omega⟩
            · exact List.nodup_append.mpr ⟨si.nd, by simp, fun a ha b hb e => hin (by rw [← List.mem_singleton.mp hb, ← e]; exact ha)⟩
            · intro s hs
              rcases List.mem_append.mp hs with z | z
              · exact si.reach s z
              · rw [List.mem_singleton.mp z]; exact r1
            · intro s hs
              rcases List.mem_append.mp hs with z | z
              · exact List.mem_append_left _ (si.qs s z)
              · exact List.mem_append_right _ z
            · intro k hk
              obtain ⟨x, hx⟩ := si.kr k hk
              exact ⟨x, List.mem_append_left _ hx⟩
            · intro s hs
              rcases List.mem_append.mp hs with z | z
              · rcases hd s z with z | z | z
                · exact .inl (List.mem_append_left _ z)
                · exact .inr (.inl (z.mono (fun _ h => List.mem_append_left _ h) fun _ h => h))
                · exact .inr (.inr z)
              · exact .inl (List.mem_append_right _ z)
        · have hgb : (decide (wr = 0) || decide (k0 = 0)) = false := by
            rw [Bool.or_eq_false_iff]
            exact ⟨decide_eq_false fun z => hg (.inl z), decide_eq_false fun z => hg (.inr z)⟩
          rw [hgb]
          refine iteF ⟨S', Q', ents', vs', _, _, _, _, rfl, sh, si, hd, fun r hr => ?_, hcount, hSS⟩
          rw [tk] at hr
          rcases List.mem_append.mp hr with z | z
          · exact hrows r z
          · rw [List.mem_singleton.mp z]; exact fun z => absurd z hg
      · rintro σ' H4 ⟨S', Q', ents', vs', o8, o9, o10, o11, rfl, sh, si, hd, hrows, hcount, hSS⟩
        have hS2 := si.len ok hi
        have hxrl : xr.length = row.length := by rw [txr.length, List.length_map]
        rw [hxrl, List.take_length] at hrows
        refine ⟨24 * T.length + Q'.length - 2 * S'.length, by omega, S', Q', ks, ents', vs', _, _, _, _, _, _, _, rfl, sh, si, fun s hs => ?_, by omega, by omega⟩
        rcases hd s hs with z | z | z
        · exact .inl z
        · exact .inr z
        · rw [z]
          refine .inr ⟨fun z => absurd z ht, fun _ row' hr' r hm hg => ?_⟩
          have : row' = row := Option.some.inj (hr'.symm.trans hrow)
          exact hrows r (this ▸ hm) hg
end
end Hw

set_option Elab.async false
set_option linter.all false
set_option maxRecDepth 100000
set_option maxHeartbeats 4000000
/-! HG: repr of what is held; defs that ask for it. -/
namespace Hw
open PySem PySem.Spec PyProof.Rows L2
/-! ### data that may be shown -/
mutual
def okD : PyData → Bool
  | .none => true
  | .bool _ => true
  | .int i => decide (0 ≤ i) && decide (i < 10 ^ 30)
  | .str x => x.cps.toList.all fun c => decide (c < 128)
  | .list ds => okDs ds
  | .tuple ds => okDs ds
  | .dict _ => false
def okDs : List PyData → Bool
  | [] => true
  | d :: ds => okD d && okDs ds
end
theorem int_len {i : Int} (h0 : 0 ≤ i) (h : i < 10 ^ 30) : (PyData.shown (.int i)).length ≤ 30 := toString_length_le h0 (by decide) h
theorem int_log {i : Int} (h0 : 0 ≤ i) (h : i < 10 ^ 30) : i.natAbs.log2 < 1920 := by
  by_cases z : i.natAbs = 0
  · rw [z]; decide
  · refine (Nat.log2_lt z).mpr ?_
    have h1 : i.natAbs < 10 ^ 30 := by omega
    exact Nat.lt_trans h1 (by decide)
mutual
theorem okD_all : ∀ d : PyData, okD d = true → d.showable = true ∧ d.hasDict = false ∧ d.leavesShort 30 = true
  | .none, _ => ⟨rfl, rfl, rfl⟩
  | .bool b, _ => ⟨rfl, rfl, rfl⟩
  | .int i, h => by
    have h1 : (decide (0 ≤ i) && decide (i < 10 ^ 30)) = true := h
    rw [Bool.and_eq_true, decide_eq_true_eq, decide_eq_true_eq] at h1
    exact ⟨decide_eq_true (int_log h1.1 h1.2), rfl, decide_eq_true (int_len h1.1 h1.2)⟩
  | .str x, h => by
    have h1 : (x.cps.toList.all fun c => decide (c < 128)) = true := h
    refine ⟨rfl, rfl, List.all_eq_true.mpr fun c hc => decide_eq_true (Nat.lt_trans (of_decide_eq_true (List.all_eq_true.mp h1 c hc)) (by decide))⟩
  | .list ds, h => okDs_all ds h
  | .tuple ds, h => okDs_all ds h
  | .dict _, h => by cases (show false = true from h)
theorem okDs_all : ∀ ds : List PyData, okDs ds = true → PyData.showableAll ds = true ∧ PyData.hasDictAll ds = false ∧ PyData.leavesShortAll 30 ds = true
  | [], _ => ⟨rfl, rfl, rfl⟩
  | d :: ds, h => by
    have h1 : (okD d && okDs ds) = true := h
    rw [Bool.and_eq_true] at h1
    obtain ⟨a1, a2, a3⟩ := okD_all d h1.1
    obtain ⟨b1, b2, b3⟩ := okDs_all ds h1.2
    refine ⟨?_, ?_, ?_⟩
    · show (d.showable && PyData.showableAll ds) = true
      rw [a1, b1]; rfl
    · show (d.hasDict || PyData.hasDictAll ds) = false
      rw [a2, b2]; rfl
    · show (d.leavesShort 30 && PyData.leavesShortAll 30 ds) = true
      rw [a3, b3]; rfl
end
/-- repr(v) -/
def rRepr (K : PySem.W.Frag) : List V → Hp → VK → Prop := fun xs H Q => ∃ v d, xs = [v] ∧ Dp K H v d ∧ okD d = true ∧ d.depth ≤ 64 ∧ d.bulk ≤ 1000 ∧ ((∃ i, d = .int i) ∨ ∃ a, v = .ref a) ∧ Q (.str d.shown) H
theorem call_reprD {X : Cx} (hgd : X.A.guards = some []) (hu : X.A.units + 100 < cLine) : CallR X (.builtin "repr") (rRepr X.K) := by
  intro pins s σ H xs us Q I r h
  obtain ⟨v, d, rfl, hd, ok, h64, hb, hv, q⟩ := h
  obtain ⟨s1, s2, s3⟩ := okD_all d ok
  rcases hv with ⟨i, rfl⟩ | ⟨a, rfl⟩
  · cases hd
    have hz : i.natAbs.log2 < 1920 := of_decide_eq_true s1
    obtain ⟨u, rfl, t, rfl⟩ := vals1 r
    exact PySem.P.repr_of_int hz ⟨.str _, H, I.tok _, ⟨_, rfl⟩, q⟩
  · obtain ⟨u, rfl, ru⟩ := vals1 r
    obtain rfl : u = Value.ref a := ru
    obtain ⟨as, rd⟩ := Dp.reads I d _ _ hd rfl
    have hlen := PyData.shown_le_bulk 30 (by decide) d s3
    refine repr_of_reads' (h₀ := s.heap) rd s1 (fun e => by rw [s2] at e; cases e) hgd (by omega) (fun _ _ e => e) (fun h' u tk hk => ⟨.str d.shown, H, I.kept hk, ⟨u, rfl⟩, q⟩) (Nat.le_trans hlen (Nat.le_trans (show 32 * d.bulk + 30 ≤ 32030 by omega) (by decide)))
/-! ### defs that ask what guards stand about them -/
structure FnG (P : Program) (w : World) (K : PySem.W.Frag) (mg : Str → Option Value) (base : Heap) (k : Nat) (f : Addr) (fd : FuncData) (ps : List Str) (sp : Sp) : Prop where
  len : ∀ vs H Q E, sp vs H Q E → vs.length = ps.length
  run : ∀ (A : Around), A.guards = some [] → ∀ (outer : List Env) (s : Shared) (H : Hp) (args : Args) (us : List Value) (vs : List V) (Q : VK) (E : XK), Room k A → Env0 P w K mg base A outer s H → BindsTo s fd args (ps.zip us) → Vals vs us →
    sp vs H Q E → codeAny (model P w) A (.call (.ref f) args) (CR CX0 outer P w H s Q E) s
/-- by the body -/
theorem fun_okG {P : Program} {w : World} {K : PySem.W.Frag} {mg : Str → Option Value} {base : Heap} {x qual : Str} {st : Stmt} {f : Addr} {fd : FuncData} {N ps : List Str} {k : Nat} {sp : Sp} (F : Fun K x qual st f fd) (S : FnScope N ps (defScope st))
    (len : ∀ vs H Q E, sp vs H Q E → vs.length = ps.length)
    (body : ∀ (cdv : Value) (A : Around) (outer : List Env) (s : Shared) (H : Hp) (vs : List V) (Q : VK) (E : XK), Room k (A.deeper (envOfC qual (defScope st) s.heap.objs.size f cdv)) → (A.deeper (envOfC qual (defScope st) s.heap.objs.size f cdv)).guards = some [] → sp vs H Q E →
      ∃ t, PSs (cxOf CX0 P w K mg base N qual (defScope st) f cdv A outer s H E).nox (defBody st) t ∧ t { nx := fun _ H' => Q .non H', rt := Q } (L2.start N vs) H) : FnG P w K mg base (k + 1) f fd ps sp := by
  obtain ⟨oc, od, kV, doc, pm, an, cdv, ct, osl, rfl, found, code⟩ := F.ex
  refine ⟨len, fun A hg outer s H args us vs Q E hr env binds rel hsp => ?_⟩
  have hl := len _ _ _ _ hsp
  have inK : K.In s.heap := env.mod.kin.keeps fun b o q => (env.bs b o q).1
  have free : s.heap.NoLimit := env.mod.nolimit.keeps fun b o q => (env.bs b o q).1
  have kinds : ∀ y ∈ ps.zip us, (defScope st).names.lookup y.1 = some .local ∨ ((defScope st).names.lookup y.1 = some .cell ∧ ((cellsFrom (s.heap.objs.size + 1) (defScope st).names []).lookup y.1).isSome = true) := by
    rintro ⟨n, v⟩ hy
    rcases S.par n (List.of_mem_zip hy).1 with q | q
    · exact .inl q
    · exact .inr ⟨q, PySem.W.cellsFrom_some _ _ _ (.inl q)⟩
  refine codeAny_call_function hr.depth (inK _ _ found) rfl S.co S.gen rfl (PySem.W.codeRec_of inK code) (binds _ _ _ _ ?_)
  refine wpAny_newFunctionEnv_cells S.kind kinds fun e1 he s1 made => ?_
  subst he
  refine ⟨free.keeps made.toInCall.keep, codeAny_func ?_⟩
  obtain ⟨t, walk, read⟩ := body cdv A outer s H vs Q E (hr.deeper _) hg hsp
  have J0 : Inv (cxOf CX0 P w K mg base N qual (defScope st) f cdv A outer s H E) [] (L2.start N vs) H s1 := inv_start S hr.hd env hl rel made
  refine wpAny_mono (walk.nox.run [] s1 (L2.start N vs) H _ J0 read) (fun fl s2 hs => ?_) fun e s2 hs => hs
  cases fl with
  | ret u =>
    obtain ⟨v, σ2, H2, J, rv, q⟩ := hs
    exact ⟨v, H2, J.os, J.bare, J.base, J.hok, rv, q⟩
  | next =>
    obtain ⟨σ2, H2, J, q⟩ := hs
    exact ⟨V.non, H2, J.os, J.bare, J.base, J.hok, rfl, q⟩
  | brk => obtain ⟨_, _, _, q⟩ := hs; exact q.elim
  | cont => obtain ⟨_, _, _, q⟩ := hs; exact q.elim
def FnN (P : Program) (w : World) (K : PySem.W.Frag) (mg : Str → Option Value) (base : Heap) (k : Nat) (x : Str) (ps : List Str) (sp : Sp) : Prop :=
  ∃ f fd, FnG P w K mg base k f fd ps sp ∧ mg x = some (.ref f) ∧ PySem.W.keepIn K (.ref f) = true ∧ Binds K fd ps []
theorem pe_fnG {X : Cx} {k : Nat} {x : Str} {ps : List Str} {sp : Sp} {p pos : Pos} {e : Expr} {es : List Expr} {t : TA} (hgd : X.A.guards = some []) (g : FnN X.prog X.w X.K X.mg X.base k x ps sp) (hr : Room k X.A) (hg : Gl X x) (ha : PA X (e :: es) t) (hdb : (x == ("__debug__" : Str)) = false := by decide)
    (he : starEach (e :: es) X.env = (false, eval e X.env) :: starEach es X.env := by rfl) (hpl : (backTo pos (starEach es X.env)).any (·.1) = false := by rfl) :
    PE X (.Call (.Name x p) (e :: es) [] pos) (tCall sp [] E0 t) := by
  obtain ⟨f, fd, G, hm, hk, hb⟩ := g
  refine ⟨fun pins s σ H Q I h => wpAny_Call_Name_kw (ld_glob I hg hm ?_ hdb)⟩
  refine PySem.W.callWith_K (h₀ := X.base) I.ok.mod.kin hk (thn (ha.run pos pins s σ H _ I h) fun us s1 ⟨vs, H1, I1, r, q⟩ => And.intro I1.kIn ?_) he hpl
  have r2 : Vals (vs ++ []) (us ++ []) := r.append .nil
  have hl : (us ++ []).length = ps.length := by rw [← r2.length]; exact G.len _ _ _ _ q
  refine wpAny_call (codeAny_mono (G.run X.A hgd X.stack s1 H1 ⟨us, []⟩ (us ++ []) (vs ++ []) Q E0 hr I1.env0 (hb s1 us I1.kIn hl) r2 q) fun r3 s2 hq => ?_)
  cases r3 with
  | error e => exact pass0 pins σ H1 s1 e s2 I1 hq
  | ok fl =>
    cases fl with
    | ret u => exact I1.after hq
    | next => exact hq.elim
    | brk => exact hq.elim
    | cont => exact hq.elim
/-- the law's own call -/
theorem law_callG {P : Program} {w : World} {K : PySem.W.Frag} {mg mb : Str → Option Value} {k : Nat} {fa a : Addr} {fd : FuncData} {x : Str} {sp : Sp} {z : Shared} {vs : List Value} {ns : List Int}
    (inK : K.In z.heap) (gns : z.heap.Ns mainGlobals mg) (bns : z.heap.Ns builtinsNs mb) (boot : ∀ x : Str, x ≠ "__name__" → mb x = bootBuiltins x) (free : z.heap.NoLimit) (nogen : z.gens = #[])
    (obj : z.heap.get? a = some { cls := .type "list", data := .seq vs.toArray }) (nums : IntsAre vs ns) (size : ns.length ≤ sizeLine) (room : Room k callerA)
    (F : ∀ base : Heap, K.In base → base.Ns mainGlobals mg → FnG P w K mg base k fa fd [x] sp) (binds : ∀ (s : Shared) (u : Value), BindsTo s fd ⟨[u], []⟩ [(x, u)])
    (holds : ∀ H : Hp, Only H → SqL K H a (ns.map V.int) → sp [.ref a] H (fun v _ => v = .bl true) fun _ _ _ => False) :
    codeAny (model P w) callerA (.call (.ref fa) ⟨[.ref a], []⟩) (fun r s' => r = .ok (.ret (.bool true)) ∧ OldK z.heap s'.heap ∧ s'.os = z.os ∧ AllBare s'.gens) z := by
  have relV := vals_ints nums
  have lenV := nums.length
  have main : ∀ H : Hp, Only H → SqL K H a (ns.map V.int) → HOk P w H z.heap → (∀ b, H b ≠ none → b = a) → (H a ≠ none → K.lookup a = none) →
      codeAny (model P w) callerA (.call (.ref fa) ⟨[.ref a], []⟩) (fun r s' => r = .ok (.ret (.bool true)) ∧ OldK z.heap s'.heap ∧ s'.os = z.os ∧ AllBare s'.gens) z := by
    intro H only seq okH onA notK
    have plain : ∀ {b : Addr} {o : Obj}, z.heap.get? b = some o → H b = none → (hidT z.heap H).get? b = some o := fun q n => hidT_get q n
    have dicts : ∀ {b : Addr} {o : Obj} {es : Array DictEntry} {ep : Nat}, z.heap.get? b = some o → o.data = .dict es ep → H b = none := by
      intro b o es ep q d
      cases hb : H b with
      | none => rfl
      | some u =>
        have same : b = a := onA b (by rw [hb]; simp)
        rw [same, obj] at q
        rw [← Option.some.inj q] at d
        have d2 : Data.seq vs.toArray _ = Data.dict es ep := d
        cases d2
    have nsT : ∀ {b : Addr} {m : Str → Option Value}, z.heap.Ns b m → (hidT z.heap H).Ns b m := by
      rintro b m ⟨o, es, ep, q, d, r⟩
      exact ⟨o, es, ep, plain q (dicts q d), d, r⟩
    have inT : K.In (hidT z.heap H) := by
      intro b o q
      refine plain (inK b o q) ?_
      cases hb : H b with
      | none => rfl
      | some u =>
        have same : b = a := onA b (by rw [hb]; simp)
        rw [same] at q hb
        rw [notK (by rw [hb]; simp)] at q
        cases q
    have limT : (hidT z.heap H).NoLimit := by
      obtain ⟨mc, h1, h2⟩ := free
      exact ⟨mc, nsT h1, h2⟩
    have env : Env0 P w K mg (hidT z.heap H) callerA [] z H := ⟨rfl, ⟨inT, nsT gns, ⟨mb, nsT bns, boot⟩, limT⟩, fun b o q => of_hidT q, Nat.le_of_eq (hidT_size _ _), trivial, fun b hb => absurd (show b ∈ ([] : List Addr) from hb) (by simp), okH, .of_eq nogen⟩
    refine codeAny_mono ((F _ inT (nsT gns)).run callerA rfl [] z H ⟨[.ref a], []⟩ [.ref a] [.ref a] _ _ room env (binds z (.ref a)) (.cons rfl .nil) (holds H only seq)) fun r s2 done => ?_
    cases r with
    | error e => exact nomatch done
    | ok fl =>
      cases fl with
      | next => exact done.elim
      | brk => exact done.elim
      | cont => exact done.elim
      | ret u =>
        obtain ⟨v, H2, os, bare, un, ok2, rel, q⟩ := done
        obtain rfl : v = V.bl true := q
        obtain rfl : u = Value.bool true := rel
        refine ⟨rfl, OldK.of_keep fun b o got => ?_, os, bare⟩
        cases hb : H b with
        | none => exact un.keep b o got hb (by intro y; exact absurd (show b ∈ ([] : List Addr) from y) (by simp)) (by simp)
        | some u =>
          rcases only b with y | ⟨ob, xs, y⟩
          · rw [hb] at y; cases y
          · obtain ⟨e1, _⟩ := okH b _ y
            obtain ⟨e2, _⟩ := ok2 b _ (un.frzs b ob _ y)
            rw [got] at e1
            cases e1
            exact e2
  cases hk : K.lookup a with
  | some o =>
    have got := inK a o hk
    rw [obj] at got
    cases got
    exact main (fun _ => none) (fun _ => .inl rfl) (.inr ⟨_, vs.toArray, _, hk, rfl, rfl, rfl, by rw [List.size_toArray, lenV]; exact size, by simpa using relV⟩) (fun b u y => by have y2 : (none : Option HO) = some u := y; cases y2) (fun b y => absurd rfl y) fun y => absurd rfl y
  | none =>
    refine main (fun b => if b = a then some (.frz { cls := .type "list", data := .seq vs.toArray } (.lst (ns.map V.int))) else none) (fun b => ?_) (.inl (.inr ⟨{ cls := .type "list", data := .seq vs.toArray }, if_pos rfl⟩)) (fun b u y => ?_) (fun b y => ?_) fun _ => hk
    · by_cases hb : b = a
      · exact .inr ⟨_, _, if_pos hb⟩
      · exact .inl (if_neg hb)
    · by_cases hb : b = a
      · have y2 := (if_pos hb).symm.trans y
        cases y2
        subst hb
        exact ⟨obj, by rw [List.length_map]; exact size, vs, _, relV, obj⟩
      · have y2 := (if_neg hb).symm.trans y
        cases y2
    · by_cases hb : b = a
      · exact hb
      · exact absurd (if_neg hb) y
/-- as walk_ofE -/
theorem walk_ofG {l : PySem.W.OpenLaw} {n k : Nat} {q : Program} {loose : List Str} {XP : (Str → Option Value) → Heap → Prop} {YP : World → Heap → Prop} {d : DefRec} {x : Str}
    (most : l.most = some n) (fits : n ≤ sizeLine) (nodf : d.params.defaults = []) (room : Room k callerA)
    (each : ∀ (w : World) (mg : Str → Option Value) (fa : Addr) (h : Heap), YP w h → h.Ns mainGlobals mg → mg d.name = some (.ref fa) → ∃ (K : PySem.W.Frag) (fd : FuncData) (sp : Sp), K.In h ∧ (∀ (s : Shared) (u : Value), BindsTo s fd ⟨[u], []⟩ [(x, u)]) ∧
      (∀ (H : Hp) (a : Addr) (script : List Int), script.length ≤ n → Only H → SqL K H a (script.map V.int) → sp [.ref a] H (fun v _ => v = .bl true) fun _ _ _ => False) ∧ ∀ base : Heap, K.In base → base.Ns mainGlobals mg → FnG l.prog w K mg base k fa fd [x] sp) :
    PySem.W.WalkO q loose XP YP l.row.toRowW d [] (fun f vs => PySem.call f vs) := by
  refine Att.attach_call most nodf fun w s0 s1 mg mb fa o pm cd doc a vs ns G Y ho hd hcd hmg obj nums hlen gens => ?_
  obtain ⟨K, fd, sp, inK, binds, holds, walk⟩ := each w mg fa _ Y G.T.g hmg
  exact law_callG inK G.T.g G.T.b G.T.builtins G.T.nolimit gens obj nums (Nat.le_trans hlen fits) room walk binds fun H o1 o2 => holds H a ns hlen o1 o2
end Hw

set_option Elab.async false
set_option linter.all false
set_option maxRecDepth 100000
set_option maxHeartbeats 4000000
/-! HH: the same by repr. -/
namespace Hw
open PySem PySem.Spec PyProof.Rows L2
section
variable {P : Program} {w : World} {K : PySem.W.Frag} {mg : Str → Option Value} {base : Heap} {f : Addr} {fd : FuncData}
theorem hu100 {A : Around} {k : Nat} (hr : Room k A) : A.units + 100 < cLine := by have := hr.un; omega
abbrev s__law_same : Stmt := topS 41
theorem sc__law_same : FnScope ["_law_one_told", "_law_other_told"] ["_law_one_told", "_law_other_told"] (defScope s__law_same) := ⟨rfl, rfl, rfl, by decide +kernel, rfl, by decide +kernel, by decide +kernel⟩
def Shw (K : PySem.W.Frag) (H : Hp) (v : V) (d : PyData) : Prop := Dp K H v d ∧ okD d = true ∧ d.depth ≤ 64 ∧ d.bulk ≤ 1000 ∧ ((∃ i, d = .int i) ∨ ∃ a, v = .ref a)
def spSame (K : PySem.W.Frag) : Sp := fun vs H Q _ => ∃ v1 v2 d, vs = [v1, v2] ∧ Shw K H v1 d ∧ Shw K H v2 d ∧ Q (.bl true) H
theorem ok_same (F : Fun K "_law_same" "_law_same" s__law_same f fd) (B : Bt mg) : FnG P w K mg base 1 f fd ["_law_one_told", "_law_other_told"] (spSame K) := by
  refine fun_okG F sc__law_same (fun vs H Q E h => by obtain ⟨_, _, _, rfl, _⟩ := h; rfl) (fun cdv A outer s H vs Q E hr hgd h => ?_)
  obtain ⟨v1, v2, d, rfl, h1, h2, q⟩ := h
  refine ⟨_, (pss_one (ps_ret (pe_cmpR op_eq (pe_callB (call_reprD hgd (hu100 hr)) (by rfl) B.repr (by decide +kernel) (pa_cons (pv 0) pa_nil)) (pe_callB (call_reprD hgd (hu100 hr)) (by rfl) B.repr (by decide +kernel) (pa_cons (pv 1) pa_nil)) (nomark _)))), ?_⟩
  obtain ⟨a1, a2, a3, a4, a5⟩ := h1
  obtain ⟨b1, b2, b3, b4, b5⟩ := h2
  refine ⟨v1, rfl, v1, d, rfl, a1, a2, a3, a4, a5, v2, rfl, v2, d, rfl, b1, b2, b3, b4, b5, rfl, ?_⟩
  rw [decide_eq_true (rfl : V.str d.shown = V.str d.shown)]
  exact q
end
end Hw

set_option Elab.async false
set_option linter.all false
set_option maxRecDepth 100000
set_option maxHeartbeats 4000000
/-! HJ: the small links, by places. -/
namespace Hw
open PySem PySem.Spec PyProof.Rows L2
def keyC (c : Ct) : NestedKey := keyD (dC c)
theorem keyC_inj {a b : Ct} (h : keyC a = keyC b) : a = b := by
  obtain ⟨a1, a2, a3, a4, a5, a6, a7, a8, a9, a10⟩ := a
  obtain ⟨b1, b2, b3, b4, b5, b6, b7, b8, b9, b10⟩ := b
  have lot : ∀ x y : Option (Bool × Nat), keyD (dLot x) = keyD (dLot y) → x = y := by
    intro x y e
    rcases x with _ | ⟨nw, m⟩ <;> rcases y with _ | ⟨nw2, m2⟩
    · rfl
    · rw [lot_str] at e; cases e
    · rw [lot_str] at e; cases e
    · rw [lot_str, lot_str] at e
      simp only [keyD, keyDs, NestedKey.tup.injEq, List.cons.injEq, NestedKey.num.injEq, NestedKey.text.injEq, and_true] at e
      obtain ⟨e1, e2⟩ := e
      have : m = m2 := by omega
      subst this
      have key : ∀ p q : Bool, (if p then ("new" : Str) else "old") = (if q then ("new" : Str) else "old") → p = q := by decide +kernel
      rw [key _ _ e1]
  unfold keyC dC dS dR dT dB at h
  simp only [keyD, keyDs, NestedKey.tup.injEq, List.cons.injEq, NestedKey.num.injEq, and_true] at h
  obtain ⟨⟨h1, h2⟩, ⟨h3, h4, h5⟩, ⟨h6, h7, h8⟩, h9, h10⟩ := h
  have h4 := lot _ _ h4
  have h5 : a5 = b5 := by revert h5; cases a5 <;> cases b5 <;> simp
  rw [show a1 = b1 by omega, show a2 = b2 by omega, show a3 = b3 by omega, h4, h5, show a6 = b6 by omega, show a7 = b7 by omega, show a8 = b8 by omega, show a9 = b9 by omega, show a10 = b10 by omega]
theorem keyC_depth (c : Ct) : (keyC c).depth ≤ 8 := by
  obtain ⟨a1, a2, a3, a4, a5, a6, a7, a8, a9, a10⟩ := c
  rcases a4 with _ | ⟨nw, m⟩
  · show max (max 0 (max 0 0) + 1) (max (max 0 (max 0 (max 0 0)) + 1) (max (max 0 (max 0 (max 0 0)) + 1) (max (max 0 (max 0 0) + 1) 0))) + 1 ≤ 8
    decide
  · cases nw
    · show max (max 0 (max 0 0) + 1) (max (max 0 (max (max 0 (max 0 0) + 1) (max 0 0)) + 1) (max (max 0 (max 0 (max 0 0)) + 1) (max (max 0 (max 0 0) + 1) 0))) + 1 ≤ 8
      decide
    · show max (max 0 (max 0 0) + 1) (max (max 0 (max (max 0 (max 0 0) + 1) (max 0 0)) + 1) (max (max 0 (max 0 (max 0 0)) + 1) (max (max 0 (max 0 0) + 1) 0))) + 1 ≤ 8
      decide
theorem atN_get : ∀ {xs : List NEnt} {j : Nat} {k : NestedKey} {a : Addr} {v : V}, (xs.map (·.1)).Nodup → xs[j]? = some (k, a, v) → atN xs k = some v
  | [], _, _, _, _, _, h => by simp at h
  | x :: xs, 0, k, a, v, _, h => by
    simp only [List.getElem?_cons_zero, Option.some.injEq] at h
    subst h
    simp [atN]
  | x :: xs, j + 1, k, a, v, hn, h => by
    rw [List.map_cons, List.nodup_cons] at hn
    simp only [List.getElem?_cons_succ] at h
    have hm : k ∈ xs.map (·.1) := List.mem_map.mpr ⟨_, List.mem_of_getElem? h, rfl⟩
    have hne : ¬ x.1 = k := fun e => hn.1 (e ▸ hm)
    have := atN_get hn.2 h
    unfold atN at this ⊢
    rw [List.find?_cons, decide_eq_false hne]
    exact this
theorem cs_len : ∀ L ∈ smallL, (csOf L).length = (ktOf L).length ∧ (csOf L).length ≤ 300 ∧ 0 < (csOf L).length := small_cases (by decide +kernel) (by decide +kernel) (by decide +kernel)
theorem row_at {L : Lk} (hL : L ∈ smallL) {k : Nat} {c : Ct} (hc : (csOf L)[k]? = some c) : ∃ row, (ktOf L)[k]? = some row ∧ row.length = (mMoves L c).length ∧
    ∀ (j : Nat) (m : Ev × Ct × Option Str), (mMoves L c)[j]? = some m → ∃ r, row[j]? = some r ∧ (csOf L)[r.1]? = some m.2.1 ∧ wS r.2.1 = m.2.2 ∧ r.2.2 = if m.2.1.bit = c.bit then 0 else 1 := by
  have hk := (List.getElem?_eq_some_iff.mp hc).1
  have hl := (cs_len L hL).1
  obtain ⟨row, hrow⟩ : ∃ row, (ktOf L)[k]? = some row := ⟨(ktOf L)[k]'(by omega), by rw [List.getElem?_eq_getElem]⟩
  have hb := moves_ok L hL
  unfold movesB at hb
  rw [Bool.and_eq_true, List.all_eq_true] at hb
  have hz : ((csOf L).zip (ktOf L))[k]? = some (c, row) := by rw [List.getElem?_zip_eq_some]; exact ⟨hc, hrow⟩
  have he := of_decide_eq_true (hb.2 (c, row) (List.mem_of_getElem? hz))
  have hlen := congrArg List.length he
  simp only [List.length_map] at hlen
  refine ⟨row, hrow, hlen.symm, fun j m hm => ?_⟩
  have hj := congrArg (fun l => l[j]?) he
  simp only [List.getElem?_map, hm] at hj
  obtain ⟨r, hr, e⟩ := Option.map_eq_some_iff.mp hj.symm
  simp only [Prod.mk.injEq] at e
  exact ⟨r, hr, e.1, e.2.1, e.2.2⟩
/-! what the law says of one place -/
theorem law_at {L : Lk} (hL : L ∈ smallL) {i : Nat} {c : Ct} (hc : (csOf L)[i]? = some c) : (rho (rkOf L) 0 i 0 0 ≠ 0 ↔ c.must = 0) ∧ (c.must ≠ 0 → ∀ g ∈ [1, 2, 3], (rho (rkOf L) g i 0 0 ≠ 0 ↔ kS g ∈ firstsM c.even c.done (c.enA L) (c.enO L))) := by
  have h := List.all_eq_true.mp (lawB_ok L hL) (c, i) (List.mem_zipIdx_iff_getElem?.mpr hc)
  simp only [Bool.and_eq_true, Bool.or_eq_true] at h
  refine ⟨of_decide_eq_true h.1, fun hm g hg => ?_⟩
  rcases h.2 with z | z
  · exact absurd (of_decide_eq_true z) hm
  · exact of_decide_eq_true (List.all_eq_true.mp z g hg)
theorem filter_self (l : List Str) : ∀ e d a o : Bool, firstsM e d a o = fateWords.filter fun k => decide (k ∈ firstsM e d a o) := by decide +kernel
theorem sorted_words : ∀ ys : List Str, (∀ y ∈ ys, y ∈ fateWords) → sortedS ys = true → ys.Nodup → ys = fateWords.filter fun k => decide (k ∈ ys) := by
  have w : ∀ y : Str, y ∈ fateWords → y = "lost" ∨ y = "made" ∨ y = "twice" := by
    intro y h
    simpa [fateWords] using h
  intro ys h1 h2 h3
  match ys, h1, h2, h3 with
  | [], _, _, _ => rfl
  | [a], h1, h2, h3 =>
    rcases w a (h1 a (by simp)) with rfl | rfl | rfl <;> decide +kernel
  | [a, b], h1, h2, h3 =>
    rcases w a (h1 a (by simp)) with rfl | rfl | rfl <;> rcases w b (h1 b (by simp)) with rfl | rfl | rfl <;> first | (exact absurd h3 (by decide +kernel)) | (exact absurd h2 (by decide +kernel)) | decide +kernel
  | [a, b, c], h1, h2, h3 =>
    rcases w a (h1 a (by simp)) with rfl | rfl | rfl <;> rcases w b (h1 b (by simp)) with rfl | rfl | rfl <;> rcases w c (h1 c (by simp)) with rfl | rfl | rfl <;> first | (exact absurd h3 (by decide +kernel)) | (exact absurd h2 (by decide +kernel)) | decide +kernel
  | a :: b :: c :: d :: l, h1, h2, h3 =>
    have := nodup_len _ fateWords h3 h1
    simp [fateWords] at this
/-- the kinds that the search tells -/
theorem kinds_at {L : Lk} (hL : L ∈ smallL) {i : Nat} {c : Ct} (hc : (csOf L)[i]? = some c) {ys : List Str} (hs : sortedS ys = true) (hn : ys.Nodup) (hy : ∀ y, y ∈ ys ↔ ∃ k x, k < 4 ∧ Reach (ktOf L) i (x, 2, k) ∧ y = kS k) :
    decide (("" : Str) ∈ ys) = decide (c.must = 0) ∧ (c.must ≠ 0 → ys = firstsM c.even c.done (c.enA L) (c.enO L)) := by
  have hk := (List.getElem?_eq_some_iff.mp hc).1
  have hi : i < (ktOf L).length := by rw [← (cs_len L hL).1]; exact hk
  have rk := fun {g : Nat} (hg : g < 4) => reach_rank (kt_tok L hL) (kt_ranks L hL) hi hg
  obtain ⟨l1, l2⟩ := law_at hL hc
  have mem : ∀ g < 4, (kS g ∈ ys ↔ rho (rkOf L) g i 0 0 ≠ 0) := by
    intro g hg
    rw [hy, ← rk hg]
    constructor
    · rintro ⟨k, x, hk, hr, e⟩
      rw [kS_inj hg hk e]
      exact ⟨x, hr⟩
    · rintro ⟨x, hr⟩
      exact ⟨g, x, hg, hr, rfl⟩
  refine ⟨decide_eq_decide.mpr ((mem 0 (by decide)).trans l1), fun hm => ?_⟩
  have h0 : ("" : Str) ∉ ys := fun z => hm (((mem 0 (by decide)).trans l1).mp z)
  have hw : ∀ y ∈ ys, y ∈ fateWords := by
    intro y h
    obtain ⟨k, x, hk, _, rfl⟩ := (hy y).mp h
    match k, hk with
    | 0, _ => exact absurd h h0
    | 1, _ => exact List.mem_cons_self
    | 2, _ => exact List.mem_cons_of_mem _ List.mem_cons_self
    | 3, _ => exact List.mem_cons_of_mem _ (List.mem_cons_of_mem _ List.mem_cons_self)
  rw [sorted_words ys hw hs hn, filter_self [] c.even c.done (c.enA L) (c.enO L)]
  refine List.filter_congr fun k hk => decide_eq_decide.mpr ?_
  have h2 := l2 hm
  have : k = kS 1 ∨ k = kS 2 ∨ k = kS 3 := by simpa [fateWords, kS] using hk
  rcases this with rfl | rfl | rfl
  · exact (mem 1 (by decide)).trans (h2 1 (by simp))
  · exact (mem 2 (by decide)).trans (h2 2 (by simp))
  · exact (mem 3 (by decide)).trans (h2 3 (by simp))
end Hw

set_option Elab.async false
set_option linter.all false
set_option maxRecDepth 100000
set_option maxHeartbeats 4000000
/-! HI: the small links. -/
namespace Hw
open PySem PySem.Spec PyProof.Rows L2
theorem seq_asg_op {r : R2} {ta tb : TE} {i : Nat} {u : TS} {D : Ends} {σ : L2.St} {H : Hp} (h : ta σ H fun x H1 => tb σ H1 fun y H2 => r x y H2 fun v H3 => u D (σ.set i (some v)) H3) : tSeq (tAsg (tOp r ta tb) (gName i)) u D σ H := h
theorem nkeys_nil {K : PySem.W.Frag} {H : Hp} : NKeys K H [] := fun x hx => nomatch hx
theorem same_but {H H1 H2 : Hp} {p : Addr} (s : Same H H1) (n : H p = none) (b : But p H1 H2) : Same H H2 := fun x o e => b x o (ne_of_none e n) (s x o e)
theorem firsts_shw : ∀ e d a o : Bool, okD (.list ((firstsM e d a o).map .str)) = true ∧ (PyData.list ((firstsM e d a o).map .str)).depth ≤ 64 ∧ (PyData.list ((firstsM e d a o).map .str)).bulk ≤ 1000 := by decide +kernel
theorem must01 (c : Ct) : c.must = 0 ∨ c.must = 1 := by unfold Ct.must; split <;> simp
theorem shw_int {K : PySem.W.Frag} {H : Hp} {v : V} {n : Nat} (t : Tp K H v (.int n)) (hn : n ≤ 1) : Shw K H v (.int n) := by
  refine ⟨t.dp, ?_, Nat.zero_le _, Nat.zero_le _, .inl ⟨_, rfl⟩⟩
  have : n = 0 ∨ n = 1 := by omega
  rcases this with rfl | rfl <;> decide +kernel
theorem if_same {K : PySem.W.Frag} {Γ : Cty} {ta tb : TE} {t u : TS} {D : Ends} {σ : L2.St} {H : Hp} {n : Nat} (E : EnvD K H σ Γ) (h1 : EvD K ta Γ (.int n)) (h2 : EvD K tb Γ (.int n)) (hn : n ≤ 1) (k : ∀ H', Same H H' → u D σ H') :
    tIfS (tNot (tB (tCall (spSame K) [] E0 (tCons ta (tCons tb tNil))))) t u D σ H := by
  refine h1 σ H E _ fun v1 H1 s1 t1 => h2 σ H1 (E.gr s1.gr) _ fun v2 H2 s2 t2 => ?_
  refine ⟨v1, v2, .int n, rfl, shw_int (t1.gr s2.gr) hn, shw_int t2 hn, true, rfl, iteF ?_⟩
  exact k H2 (s1.trans s2)
theorem due_ed {K : PySem.W.Frag} {Γ : Cty} {j : Nat} {c : Ct} (h : Γ[j]? = some (some (.dat (dC c)))) :
    EvD K (tCB (fun xs H Q => (∃ i, xs = [.int i] ∧ Q (.int i) H) ∨ ∃ k, xs = [.bl k] ∧ Q (.int (if k then 1 else 0)) H) (tCons (tOp rNe (tOp rEq (tOp (rIxT K) (tOp (rIxT K) (tVar j) (tC (.int 0))) (tC (.int 0))) (tOp (rIxT K) (tOp (rIxT K) (tVar j) (tC (.int 1))) (tC (.int 0)))) (tOp (rIxT K) (tOp (rIxT K) (tVar j) (tC (.int 1))) (tC (.int 2)))) tNil)) Γ (.int c.must) := by
  have p : EvD K (tVar j) Γ (.tuple [dS c.bit c.heard, dR c.own c.lot c.done, dT c.n c.z c.o, dB c.b0 c.b1]) := ed_var h
  refine EvD.is (ed_intB (ed_neB (ed_eqI (i := c.bit) (j := c.own) (ed_ix (ed_ix (d := .tuple [.int c.bit, .int c.heard]) p ed_int (by decide) rfl) ed_int (by decide) rfl) (ed_ix (ed_ix (d := .tuple [.int c.own, dLot c.lot, .bool c.done]) p ed_int (by decide) rfl) ed_int (by decide) rfl))
    (ed_ix (ed_ix (d := .tuple [.int c.own, dLot c.lot, .bool c.done]) p ed_int (by decide) rfl) ed_int (by decide) rfl))) ?_
  unfold Ct.must Ct.even
  cases (decide ((c.bit : Int) = c.own) != c.done) <;> rfl
def spSmall : Sp := fun vs H Q _ => ∃ (g : Addr) (B : Int), vs = [.ref g] ∧ Gn H g B ∧ B ≤ 1000000 ∧ ∀ H', But g H H' → Q (.bl true) H'
section
variable {P : Program} {w : World} {K : PySem.W.Frag} {mg : Str → Option Value} {base : Heap} {f : Addr} {fd : FuncData}
abbrev s__law_small_right : Stmt := topS 57
theorem sc__law_small_right : FnScope ["_law_generator_here", "_law_link_here", "_law_whole", "_law_places", "_law_steps", "_law_at", "_law_contents_there", "_law_line", "_law_event", "_law_later", "_law_wrong", "_law_turn", "_law_told", "_law_kinds_there"] ["_law_generator_here"] (defScope s__law_small_right) := ⟨rfl, rfl, rfl, by decide +kernel, rfl, by decide +kernel, by decide +kernel⟩
theorem ok_small (F : Fun K "_law_small_right" "_law_small_right" s__law_small_right f fd) (B : Bt mg) (g__law_random : Fn P w K mg base 2 "_law_random" ["_law_generator_here", "_law_bound"] spRandom)
    (g__law_all : Fn P w K mg base 2 "_law_all" ["_law_link_here"] (spL K R_all)) (g__law_moves : Fn P w K mg base 3 "_law_moves" ["_law_link_here", "_law_contents_there"] (spMoves K))
    (g_must : Fn P w K mg base 8 "must" ["link", "contents"] (spR K R_must)) (g_firsts : Fn P w K mg base 8 "firsts" ["link", "contents"] (spL K R_firsts)) (g__law_spread : Fn P w K mg base 1 "_law_spread" ["_law_steps", "_law_start"] (spSpread K))
    (g__law_same : FnN P w K mg base 1 "_law_same" ["_law_one_told", "_law_other_told"] (spSame K)) : FnG P w K mg base 9 f fd ["_law_generator_here"] spSmall := by
  refine fun_okG F sc__law_small_right (fun vs H Q E h => by obtain ⟨_, _, rfl, _⟩ := h; rfl) (fun cdv A outer s H vs Q E hr hgd h => ?_)
  obtain ⟨g, B0, rfl, hg, hB, q⟩ := h
  refine ⟨_, (pss_cons (ps_set (i := 1) sc__law_small_right.nd rfl (.inl rfl) (pe_ix ix_list (pe_lst (pa_cons (pe_tup (pa_cons pe_int (pa_cons pe_int (pa_cons pe_int (pa_cons pe_int pa_nil))))) (pa_cons (pe_tup (pa_cons pe_int (pa_cons pe_int (pa_cons pe_int (pa_cons pe_int pa_nil))))) (pa_cons (pe_tup (pa_cons pe_int (pa_cons pe_int (pa_cons pe_int (pa_cons pe_int pa_nil))))) pa_nil)))) (pe_fn g__law_random (hr.mono (by decide)) (by rfl) (pa_cons (pv 0) (pa_cons pe_int pa_nil))) (fun _ _ => rfl)))
        (pss_cons (ps_par3 (i := 2) (j := 3) (l := 4) rfl sc__law_small_right.nd rfl rfl rfl (by decide) (by decide) (by decide) rfl rfl rfl (pa_cons (pe_fn g__law_all (hr.mono (by decide)) (by rfl) (pa_cons (pv 1) pa_nil)) (pa_cons pe_newN (pa_cons (pe_lst pa_nil) pa_nil))) (by rfl))
        (pss_cons (ps_for PassesOwn.never rfl (pi_enum (by rfl) B.enumerate (pa_cons (pv 2) pa_nil)) (pg_tup rfl (pgs_cons (pg_name (i := 5) sc__law_small_right.nd rfl (.inl rfl)) (pgs_cons (pg_name (i := 6) sc__law_small_right.nd rfl (.inl rfl)) pgs_nil)))
         (pss_one (ps_asg (pv 5) (pg_sub (pv 3) (pv 6) (set_nd hr.units)))))
        (pss_cons (ps_for PassesOwn.never rfl (pi_list (pv 2)) (pg_name (i := 6) sc__law_small_right.nd rfl (.inl rfl))
         (pss_cons (ps_set (i := 7) sc__law_small_right.nd rfl (.inl rfl) (pe_lst pa_nil))
          (pss_cons (ps_for PassesOwn.never rfl (pi_list (pe_fn g__law_moves (hr.mono (by decide)) (by rfl) (pa_cons (pv 1) (pa_cons (pv 6) pa_nil)))) (pg_unl rfl (pgs_cons (pg_name (i := 8) sc__law_small_right.nd rfl (.inl rfl)) (pgs_cons (pg_name (i := 9) sc__law_small_right.nd rfl (.inl rfl)) (pgs_cons (pg_name (i := 10) sc__law_small_right.nd rfl (.inl rfl)) pgs_nil))))
           (pss_one (ps_expr (pe_bm PySem.F.plainAttrs_list PySem.F.slot_list_append PySem.F.type_list_append mt_append (pv 7) (pa_cons (pe_tup (pa_cons (pe_ix (ix_nd hr.units) (pv 3) (pv 9) (fun _ _ => rfl)) (pa_cons (pv 10) (pa_cons (pe_callTy call_int1 (by rfl) B.int (by decide +kernel) (pa_cons (pe_cmpR op_ne (pe_ix ix_tup (pe_ix ix_tup (pv 9) pe_int (fun _ _ => rfl)) pe_int (fun _ _ => rfl)) (pe_ix ix_tup (pe_ix ix_tup (pv 6) pe_int (fun _ _ => rfl)) pe_int (fun _ _ => rfl)) (nomark _)) pa_nil)) pa_nil)))) pa_nil)))))
          (pss_one (ps_expr (pe_bm PySem.F.plainAttrs_list PySem.F.slot_list_append PySem.F.type_list_append mt_append (pv 4) (pa_cons (pv 7) pa_nil)))))))
        (pss_cons (ps_for PassesOwn.never rfl (pi_enum (by rfl) B.enumerate (pa_cons (pv 2) pa_nil)) (pg_tup rfl (pgs_cons (pg_name (i := 5) sc__law_small_right.nd rfl (.inl rfl)) (pgs_cons (pg_name (i := 6) sc__law_small_right.nd rfl (.inl rfl)) pgs_nil)))
         (pss_one (ps_if (pt_not (pt_val (pe_fnG hgd g__law_same (hr.mono (by decide)) (by rfl) (pa_cons (pe_fn g_must (hr.mono (by decide)) (by rfl) (pa_cons (pv 1) (pa_cons (pv 6) pa_nil))) (pa_cons (pe_callTy call_int1 (by rfl) B.int (by decide +kernel) (pa_cons (pe_cmpR op_ne (pe_cmpR op_eq (pe_ix ix_tup (pe_ix ix_tup (pv 6) pe_int (fun _ _ => rfl)) pe_int (fun _ _ => rfl)) (pe_ix ix_tup (pe_ix ix_tup (pv 6) pe_int (fun _ _ => rfl)) pe_int (fun _ _ => rfl)) (nomark _)) (pe_ix ix_tup (pe_ix ix_tup (pv 6) pe_int (fun _ _ => rfl)) pe_int (fun _ _ => rfl)) (nomark _)) pa_nil)) pa_nil)))))
           (pss_one (ps_ret pe_bl))
           pss_nil)))
        (pss_cons (ps_for PassesOwn.never rfl (pi_range1 (by rfl) B.range (pa_cons pe_int pa_nil)) (pg_name (i := 11) sc__law_small_right.nd rfl (.inl rfl))
         (pss_cons (ps_set (i := 5) sc__law_small_right.nd rfl (.inl rfl) (pe_fn g__law_random (hr.mono (by decide)) (by rfl) (pa_cons (pv 0) (pa_cons (pe_callB call_len_seq (by rfl) B.len PySem.boot_len (pa_cons (pv 2) pa_nil)) pa_nil))))
          (pss_cons (ps_par (i := 12) (j := 13) rfl sc__law_small_right.nd rfl rfl (by decide) rfl rfl (pa_cons (pe_fn g_must (hr.mono (by decide)) (by rfl) (pa_cons (pv 1) (pa_cons (pe_ix ix_list (pv 2) (pv 5) (fun _ _ => rfl)) pa_nil))) (pa_cons (pe_fn g__law_spread (hr.mono (by decide)) (by rfl) (pa_cons (pv 4) (pa_cons (pv 5) pa_nil))) pa_nil)) (by rfl))
          (pss_cons (ps_if (pt_cmpR op_ne (pe_cmpR op_in_seq pe_str (pv 13) (by rfl)) (pe_cmpR op_eq (pv 12) pe_int (nomark _)) (nomark _))
           (pss_one (ps_ret pe_bl))
           pss_nil)
          (pss_one (ps_if (PW.pt (pw_and (pt_cmpR op_eq (pv 12) pe_int (nomark _)) (pw_and1 (pt_not (pt_val (pe_fnG hgd g__law_same (hr.mono (by decide)) (by rfl) (pa_cons (pe_fn g_firsts (hr.mono (by decide)) (by rfl) (pa_cons (pv 1) (pa_cons (pe_ix ix_list (pv 2) (pv 5) (fun _ _ => rfl)) pa_nil))) (pa_cons (pv 13) pa_nil))))))))
           (pss_one (ps_ret pe_bl))
           pss_nil))))))
        (pss_one (ps_ret pe_bl)))))))), ?_⟩
  -- the link
  refine seq_asg_op (el_lst (K := K) (Γ := List.replicate 14 none) (ds := [dL ⟨1, 1, 1, 1⟩, dL ⟨1, 1, 2, 1⟩, dL ⟨1, 1, 1, 2⟩])
    (ea_cons (ed_tup (ea_cons ed_int (ea_cons ed_int (ea_cons ed_int (ea_cons ed_int ea_nil)))) (by simp)) (ea_cons (ed_tup (ea_cons ed_int (ea_cons ed_int (ea_cons ed_int (ea_cons ed_int ea_nil)))) (by simp)) (ea_cons (ed_tup (ea_cons ed_int (ea_cons ed_int (ea_cons ed_int (ea_cons ed_int ea_nil)))) (by simp)) ea_nil))) (by simp)
    _ H (envNone (K := K) (H := H) [some (.ref g), none, none, none, none, none, none, none, none, none, none, none, none, none]) _ fun p xs H1 hp s1 l1 t1 => ?_)
  refine ⟨.ref g, rfl, g, 3, B0, rfl, by decide, by decide, hg.same s1, by omega, fun r H2 r0 r1 bt hg2 => ?_⟩
  have npg : p ≠ g := (hg.ne hp).symm
  have t2 := t1.gr ((hg.same s1).gr bt)
  obtain ⟨j, rfl⟩ : ∃ j : Nat, r = j := ⟨r.toNat, by omega⟩
  obtain ⟨L, y, hL, hy, ty⟩ : ∃ L y, L ∈ smallL ∧ xs[j]? = some y ∧ Tp K H2 y (dL L) := by
    have : j = 0 ∨ j = 1 ∨ j = 2 := by omega
    rcases this with rfl | rfl | rfl
    · obtain ⟨y, h1, h2⟩ := t2.get (i := 0) rfl; exact ⟨_, y, by simp [smallL], h1, h2⟩
    · obtain ⟨y, h1, h2⟩ := t2.get (i := 1) rfl; exact ⟨_, y, by simp [smallL], h1, h2⟩
    · obtain ⟨y, h1, h2⟩ := t2.get (i := 2) rfl; exact ⟨_, y, by simp [smallL], h1, h2⟩
  refine ⟨p, xs, j, y, rfl, rfl, SqL.of (bt p _ npg l1), atI_nat hy, ?_⟩
  have bt0 : But g H H2 := s1.but.trans bt
  have hn2 := (cs_len L hL).2
  -- whole, places, steps
  refine ⟨y, rfl, [dL L], allD L, .cons ty .nil, ⟨L, hL, rfl, rfl⟩, fun pw xw H3 hpw s3 lw tw pd hpd hmod => ⟨Nat.zero_le _, fun pst hpst => ⟨_, _, _, rfl, ?_⟩⟩⟩
  rw [all_cs L hL] at tw
  have s4 : Same H3 (upd H3 pd (ndO P w pd [])) := same_new hpd
  have s5 : Same (upd H3 pd (ndO P w pd [])) (upd (upd H3 pd (ndO P w pd [])) pst (.lst [])) := same_new hpst
  have hpd2 : H2 pd = none := s3.free hpd
  have hpst2 : H2 pst = none := (s3.trans s4).free hpst
  have npw : pd ≠ pw := (ne_of_none lw hpd).symm
  have nps : pst ≠ pw := (ne_of_none (s4 _ _ lw) hpst).symm
  have npds : pd ≠ pst := ne_of_none upd_same hpst
  have hxl : xw.length = (csOf L).length := by rw [tw.length, List.length_map]
  -- the places
  refine ⟨.ref pw, rfl, pw, xw, rfl, SqL.of (s5 _ _ (s4 _ _ lw)), for_it (walk_enum (K := K) (a := pw) (xs := xw)) (fun k σ' H' => ∃ ents o5 o6, σ' = [some (.ref g), some y, some (.ref pw), some (.ref pd), some (.ref pst), o5, o6, none, none, none, none, none, none, none] ∧ Same H2 H' ∧ H' pw = some (.lst xw) ∧ Gr H3 H' ∧
      H' pd = some (ndO P w pd ents) ∧ H' pst = some (.lst []) ∧ NKeys K H' ents ∧ ents.map (·.1) = ((csOf L).take k).map keyC ∧ ents.map (·.2.2) = (List.range k).map fun (j : Nat) => V.int j)
      ⟨[], none, none, rfl, (s3.trans s4).trans s5, s5 _ _ (s4 _ _ lw), (s4.trans s5).gr, s5 _ _ upd_same, upd_same, nkeys_nil, rfl, rfl⟩ (fun k σ' H' _ ⟨_, _, _, _, _, h, _⟩ => SqL.of h) ?_ ?_⟩
  · rintro k x σ' H4 H5 hk ⟨ents, o5, o6, rfl, s6, lw4, g4, hd4, hs4, nk, e1, e2⟩ ⟨T, x1, x2, rfl, hT, rfl, hx1, hx2⟩
    cases hx1
    obtain ⟨d, hd, td⟩ := tw.getV hx2
    rw [List.getElem?_map] at hd
    obtain ⟨c, hc, rfl⟩ := Option.map_eq_some_iff.mp hd
    have sT : Same H4 (upd H4 T (.tup [.int (k : Nat), x2])) := same_new hT
    have hdT := sT _ _ hd4
    obtain ⟨ca, cx, rfl, _, _⟩ := id td.tup_inv
    refine ⟨T, _, rfl, SqT.of upd_same, rfl, _, _, rfl, _, _, rfl, rfl, ?_⟩
    have tc := (td.gr g4).gr sT.gr
    have hck : keyC c ∉ ents.map (·.1) := by
      rw [e1]
      intro z
      obtain ⟨c2, h2, h3⟩ := List.mem_map.mp z
      have := keyC_inj h3
      subst this
      obtain ⟨m, hm, e⟩ := List.mem_take_iff_getElem.mp h2
      have hm2 : (csOf L)[m]? = some c2 := by rw [List.getElem?_eq_getElem (by omega), e]
      have := (List.getElem?_inj (by omega) (cs_nodup L hL)).mp (hm2.trans hc.symm)
      omega
    have hat : atN ents (keyC c) = none := by
      have q2 := atN_isSome (xs := ents) (k := keyC c)
      rw [decide_eq_false hck] at q2
      cases z : atN ents (keyC c) with
      | none => rfl
      | some v => rw [z] at q2; cases q2
    have hel : ents.length ≤ 300 := by
      have := congrArg List.length e1
      rw [List.length_map, List.length_map, List.length_take] at this
      omega
    refine ⟨.int (k : Nat), rfl, .ref pd, rfl, .ref ca, rfl, pd, ents, ca, keyC c, rfl, rfl, hdT, nk.gr sT.gr, ⟨dC c, tc, rfl, keyC_depth c⟩, hat, Nat.le_trans hel (by decide), ?_⟩
    have gd : Gr (upd H4 T (.tup [.int (k : Nat), .ref ca])) (upd (upd H4 T (.tup [.int (k : Nat), .ref ca])) pd (ndO P w pd (ents ++ [(keyC c, ca, .int (k : Nat))]))) := gr_nd hdT
    refine ⟨_, _, _, rfl, same_mut (s6.trans sT) hpd2, by rw [upd_ne npw.symm]; exact sT _ _ lw4, (g4.trans sT.gr).trans gd, upd_same, by rw [upd_ne npds.symm]; exact sT _ _ hs4, NKeys.snoc ((nk.gr sT.gr).gr gd) ⟨dC c, tc.gr gd, rfl, keyC_depth c⟩, ?_, ?_⟩
    · rw [List.map_append, e1, List.take_add_one, hc, List.map_append]; rfl
    · rw [List.map_append, e2, List.range_succ, List.map_append]; rfl
  · rintro σ' H4 ⟨ents, o5, o6, rfl, s6, lw4, g4, hd4, hs4, nk, e1, e2⟩
    rw [hxl, List.take_length] at e1
    rw [hxl] at e2
    have find : ∀ {j : Nat} {c : Ct}, (csOf L)[j]? = some c → atN ents (keyC c) = some (.int (j : Nat)) := by
      intro j c hc
      have h1 := congrArg (fun l => l[j]?) e1
      have h2 := congrArg (fun l => l[j]?) e2
      have hj := (List.getElem?_eq_some_iff.mp hc).1
      simp only [List.getElem?_map, hc, List.getElem?_range hj] at h1 h2
      obtain ⟨en, he, e⟩ := Option.map_eq_some_iff.mp h1
      rw [he] at h2
      obtain ⟨ek, ea, ev⟩ := en
      simp only [Option.map_some, Option.some.injEq] at h2 e
      refine atN_get ?_ (a := ea) (j := j) (by rw [he, e, h2])
      rw [e1]
      exact List.pairwise_map.mpr ((cs_nodup L hL).imp fun hne e => hne (keyC_inj e))
    have ty4 := ty.gr s6.gr
    have tw4 := tw.gr g4
    have nk4 := nk
    -- the steps
    have hqK : ∀ k, k ≤ (ktOf L).length → True := fun _ _ => True.intro
    refine ⟨.ref pw, rfl, pw, rfl, ⟨xw, SqL.of lw4⟩, for_it (walk_list (K := K) (a := pw) (xs := xw)) (fun k σ' H' => ∃ qs o6 o7 o8 o9 o10, σ' = [some (.ref g), some y, some (.ref pw), some (.ref pd), some (.ref pst), o5, o6, o7, o8, o9, o10, none, none, none] ∧ But pst H4 H' ∧
      H' pst = some (.lst (qs.map V.ref)) ∧ Paired (fun a row => a ≠ pst ∧ H2 a = none ∧ ∃ xs, H' a = some (.lst xs) ∧ TpA K H' xs (row.map dRow)) qs ((ktOf L).take k))
      ⟨[], _, _, _, _, _, rfl, But.refl _ _, hs4, .nil⟩ (fun k σ' H' _ ⟨_, _, _, _, _, _, _, h, _⟩ => SqL.of (h _ _ nps.symm lw4)) ?_ ?_⟩
    · rintro k x σ' H5 H5' hk ⟨qs, o6, o7, o8, o9, o10, rfl, b5, hst5, hpr⟩ ⟨rfl, hx⟩
      obtain ⟨d, hd, td⟩ := tw4.getV hx
      rw [List.getElem?_map] at hd
      obtain ⟨c, hc, rfl⟩ := Option.map_eq_some_iff.mp hd
      have cok := cs_ok hL (List.mem_of_getElem? hc)
      obtain ⟨row, hrow, hrl, hmv⟩ := row_at hL hc
      have g5 : Gr H4 H5' := b5.gr hs4
      have td5 := td.gr g5
      have ty5 := ty4.gr g5
      refine ⟨Nat.zero_le _, fun pl hpl => ?_⟩
      have s6' : Same H5' (upd H5' pl (.lst [])) := same_new hpl
      refine ⟨y, rfl, x, rfl, L, c, .cons (ty5.gr s6'.gr) (.cons (td5.gr s6'.gr) .nil), cok.bit, cok.own, fun pm qm H7 hpm s7 hm7 hpr7 => ?_⟩
      have hpl7 : H7 pl = some (.lst []) := s7 _ _ upd_same
      have g7 : Gr H5' H7 := s6'.gr.trans s7.gr
      have td7 := td5.gr g7
      have npm : pm ≠ pl := (ne_of_none upd_same hpm).symm
      have hql : qm.length = (mMoves L c).length := Paired.length hpr7
      have hml : (mMoves L c).length ≤ 11 := List.length_filterMap_le _ allEv
      refine ⟨pm, rfl, ⟨_, SqL.of hm7⟩, for_it (walk_list (K := K) (a := pm) (xs := qm.map V.ref)) (fun j σ' H' => ∃ vs o8 o9 o10, σ' = [some (.ref g), some y, some (.ref pw), some (.ref pd), some (.ref pst), o5, some x, some (.ref pl), o8, o9, o10, none, none, none] ∧ But pl H7 H' ∧
        H' pl = some (.lst vs) ∧ TpA K H' vs ((row.take j).map dRow)) ⟨[], _, _, _, rfl, But.refl _ _, hpl7, .nil⟩ (fun j σ' H' _ ⟨_, _, _, _, _, h, _⟩ => SqL.of (h _ _ npm hm7)) ?_ ?_⟩
      · rintro j mv σ' H8 H8' hj ⟨vs, o8, o9, o10, rfl, b8, hl8, tv8⟩ ⟨rfl, hmx⟩
        obtain ⟨qa, hqa, rfl⟩ : ∃ x, qm[j]? = some x ∧ mv = V.ref x := by
          rw [List.getElem?_map] at hmx
          obtain ⟨x, h1, h2⟩ := Option.map_eq_some_iff.mp hmx
          exact ⟨x, h1, h2.symm⟩
        obtain ⟨m, hm, xs3, hq3, t3⟩ := paired_get hpr7 hqa
        obtain ⟨ev, c2, wr⟩ := m
        obtain ⟨rr, hrr, hcs, hws, hends⟩ := hmv j _ hm
        simp only at hcs hws hends t3
        have hx3 := t3.length
        have nqp : qa ≠ pl := ne_of hq3 hpl7 (by intro z; cases z; simp at hx3)
        have g8 : Gr H7 H8' := b8.gr hpl7
        obtain ⟨v8, v9, v10, rfl, t9, t10⟩ : ∃ v8 v9 v10, xs3 = [v8, v9, v10] ∧ Tp K H7 v9 (dC c2) ∧ Tp K H7 v10 (dW wr) := by
          cases t3 with
          | cons h1 h => cases h with
            | cons h2 h => cases h with
              | cons h3 h => cases h; exact ⟨_, _, _, rfl, h2, h3⟩
        refine ⟨qa, _, rfl, SqL.of (b8 _ _ nqp hq3), rfl, _, _, rfl, _, _, rfl, _, _, rfl, rfl, ?_⟩
        have hpd8 : H8' pd = some (ndO P w pd ents) := b8 _ _ (fun e => by rw [e] at hpd2; exact absurd (s7 _ _ (s6' _ _ (b5 _ _ npds hd4))) (by rw [e, hpl7]; intro z; unfold ndO at z; cases z)) (s7 _ _ (s6' _ _ (b5 _ _ npds hd4)))
        have t9' := t9.gr g8
        obtain ⟨a9, _, rfl, _, _⟩ := id t9'.tup_inv
        have g48 : Gr H4 H8' := (g5.trans g7).trans g8
        have E8 : EnvD K H8' [some (.ref g), some y, some (.ref pw), some (.ref pd), some (.ref pst), o5, some x, some (.ref pl), some v8, some (.ref a9), some v10, none, none, none]
            [none, none, none, none, none, none, some (.dat (dC c)), none, none, some (.dat (dC c2)), some (.dat (dW wr)), none, none, none] :=
          (((envNone (K := K) (H := H8') [some (.ref g), some y, some (.ref pw), some (.ref pd), some (.ref pst), o5, some x, some (.ref pl), some v8, some (.ref a9), some v10, none, none, none]).set (A := .dat (dC c)) 6 (td7.gr g8)).set (A := .dat (dC c2)) 9 t9').set (A := .dat (dW wr)) 10 (t10.gr g8)
        have bitOf : ∀ {Γ : Cty} {i : Nat} {c : Ct}, Γ[i]? = some (some (.dat (dC c))) → EvD K (tOp (rIxT K) (tOp (rIxT K) (tVar i) (tC (.int 0))) (tC (.int 0))) Γ (.int c.bit) := fun {Γ i c} h =>
          ed_ix (ed_ix (d := .tuple [.int c.bit, .int c.heard]) (ed_var (d := .tuple [dS c.bit c.heard, dR c.own c.lot c.done, dT c.n c.z c.o, dB c.b0 c.b1]) h) ed_int (by decide) rfl) ed_int (by decide) rfl
        refine ⟨.ref pl, rfl, .inl ⟨rfl, _, SqL.of hl8⟩, .ref pd, rfl, .ref a9, rfl, pd, ents, a9, keyC c2, .int (rr.1 : Nat), rfl, rfl, hpd8, nk4.gr g48, ⟨dC c2, t9', rfl, keyC_depth c2⟩, find hcs, ?_⟩
        refine ea_cons (ed_var (i := 10) rfl) (ea_cons (EvD.is (ed_intB (ed_neN (bitOf (i := 9) rfl) (bitOf (i := 6) rfl))) (e := .int (rr.2.2 : Nat)) ?_) ea_nil) _ H8' E8 _ fun vs2 H9 s9 tv2 => ?_
        · rw [hends]
          by_cases h : c2.bit = c.bit
          · rw [if_pos h, decide_eq_true h]; rfl
          · rw [if_neg h, decide_eq_false h]; rfl
        refine ⟨by rw [List.length_cons, tv2.length]; exact (by decide : 2 + 1 ≤ sizeLine), fun T hT => ⟨pl, vs, .ref T, rfl, rfl, (same_new hT) _ _ (s9 _ _ hl8), ?_, ?_⟩⟩
        · rw [tv8.length, List.length_map]
          refine Nat.lt_of_le_of_lt (show _ ≤ 20 from ?_) (by decide)
          rw [List.length_take]
          omega
        have sT : Same H9 (upd H9 T (.tup (.int (rr.1 : Nat) :: vs2))) := same_new hT
        have hl9 := sT _ _ (s9 _ _ hl8)
        have gl : Gr (upd H9 T (.tup (.int (rr.1 : Nat) :: vs2))) (upd (upd H9 T (.tup (.int (rr.1 : Nat) :: vs2))) pl (.lst (vs ++ [.ref T]))) := gr_lst hl9
        refine ⟨_, _, _, _, rfl, fun b o nb e => by rw [upd_ne nb]; exact sT _ _ (s9 _ _ (b8 b o nb e)), upd_same, ?_⟩
        rw [List.take_add_one, hrr, List.map_append]
        refine (((tv8.gr s9.gr).gr sT.gr).gr gl).append (.cons (Tp.gr (.tup (SqT.of upd_same) ?_) gl) .nil)
        rw [hws]
        exact .cons (.int _) (tv2.gr sT.gr)
      · rintro σ' H8 ⟨vs, o8, o9, o10, rfl, b8, hl8, tv8⟩
        have hfull : row.take (qm.map V.ref).length = row := List.take_of_length_le (by rw [List.length_map, hql, hrl]; exact Nat.le_refl _)
        rw [hfull] at tv8
        have notl : ∀ {b : Addr} {o : HO}, H5' b = some o → H8 b = some o := fun {b o} e => b8 b o (ne_of_none e hpl) (s7 _ _ (s6' _ _ e))
        have hst8 := notl hst5
        have nlst : pl ≠ pst := fun e => by rw [e, hst5] at hpl; cases hpl
        have hqs : qs.length ≤ 300 := by
          have := Paired.length hpr
          rw [List.length_take] at this
          have := (cs_len L hL).1
          omega
        refine ⟨.ref pst, rfl, .inl ⟨rfl, _, SqL.of hst8⟩, .ref pl, rfl, pst, _, .ref pl, rfl, rfl, hst8, by rw [List.length_map]; exact Nat.lt_of_le_of_lt hqs (by decide), ?_⟩
        have gst : Gr H8 (upd H8 pst (.lst (qs.map V.ref ++ [.ref pl]))) := gr_lst hst8
        have g58 : Gr H5' H8 := g7.trans (b8.gr hpl7)
        refine ⟨qs ++ [pl], _, _, _, _, _, rfl, fun b o nb e => by rw [upd_ne nb]; exact notl (b5 b o nb e), by rw [upd_same, List.map_append]; rfl, ?_⟩
        rw [List.take_add_one, hrow]
        refine paired_snoc (Paired.mapP hpr fun a row' ⟨h1, h2, xs', h3, h4⟩ => ⟨h1, h2, xs', by rw [upd_ne h1]; exact notl h3, (h4.gr g58).gr gst⟩) ⟨nlst, ?_, vs, by rw [upd_ne nlst]; exact hl8, tv8.gr gst⟩
        exact (same_but s6 hpst2 b5).free hpl
    · rintro σ' H5 ⟨qs, o6, o7, o8, o9, o10, rfl, b5, hst5, hpr⟩
      have hfull : (ktOf L).take xw.length = ktOf L := List.take_of_length_le (by rw [hxl, (cs_len L hL).1]; exact Nat.le_refl _)
      rw [hfull] at hpr
      have g5 : Gr H4 H5 := b5.gr hs4
      have lw5 := b5 _ _ nps.symm lw4
      have tw5 := tw4.gr g5
      have ty5 := ty4.gr g5
      have s25 : Same H2 H5 := same_but s6 hpst2 b5
      have lOk := small_ok L hL
      have partsOf : ∀ {Γ : Cty} {i : Nat} {c : Ct}, Γ[i]? = some (some (.dat (dC c))) → EvD K (tVar i) Γ (.tuple [dS c.bit c.heard, dR c.own c.lot c.done, dT c.n c.z c.o, dB c.b0 c.b1]) := fun h => ed_var h
      -- each one's sign
      refine ⟨.ref pw, rfl, pw, xw, rfl, SqL.of lw5, for_it (walk_enum (K := K) (a := pw) (xs := xw)) (fun k σ' H' => ∃ o5 o6, σ' = [some (.ref g), some y, some (.ref pw), some (.ref pd), some (.ref pst), o5, o6, o7, o8, o9, o10, none, none, none] ∧ Same H5 H')
        ⟨_, _, rfl, Same.refl _⟩ (fun k σ' H' _ ⟨_, _, _, h⟩ => SqL.of (h _ _ lw5)) ?_ ?_⟩
      · rintro k x σ' H6 H7 hk ⟨o5, o6, rfl, s6⟩ ⟨T, x1, x2, rfl, hT, rfl, hx1, hx2⟩
        cases hx1
        obtain ⟨d, hd, td⟩ := tw5.getV hx2
        rw [List.getElem?_map] at hd
        obtain ⟨c, hc, rfl⟩ := Option.map_eq_some_iff.mp hd
        have cok := cs_ok hL (List.mem_of_getElem? hc)
        have sT : Same H6 (upd H6 T (.tup [.int (k : Nat), x2])) := same_new hT
        have s57 := s6.trans sT
        refine ⟨T, _, rfl, SqT.of upd_same, rfl, _, _, rfl, _, _, rfl, rfl, ?_⟩
        have E7 : EnvD K (upd H6 T (.tup [.int (k : Nat), x2])) [some (.ref g), some y, some (.ref pw), some (.ref pd), some (.ref pst), some (.int (k : Nat)), some x2, o7, o8, o9, o10, none, none, none]
            [none, some (.dat (dL L)), none, none, none, none, some (.dat (dC c)), none, none, none, none, none, none, none] :=
          ((envNone (K := K) (H := upd H6 T (.tup [.int (k : Nat), x2])) [some (.ref g), some y, some (.ref pw), some (.ref pd), some (.ref pst), some (.int (k : Nat)), some x2, o7, o8, o9, o10, none, none, none]).set (A := .dat (dL L)) 1 (ty5.gr s57.gr)).set (A := .dat (dC c)) 6 (td.gr s57.gr)
        have hm1 : c.must ≤ 1 := by rcases must01 c with h | h <;> omega
        exact if_same E7 (ed_call (R := R_must) (ds := [dL L, dC c]) (d := .int c.must) (ea_cons (ed_var (i := 1) rfl) (ea_cons (ed_var (i := 6) rfl) ea_nil)) ⟨L, c, lOk, cok, rfl, rfl⟩) (due_ed (j := 6) rfl) hm1 fun H8 s8 => ⟨_, _, rfl, s57.trans s8⟩
      · rintro σ' H6 ⟨o5, o6, rfl, s6⟩
        -- two of them, drawn
        have s26 := s25.trans s6
        have hg6 := hg2.same s26
        have lw6 := s6 _ _ lw5
        have hst6 := s6 _ _ hst5
        have tw6 := tw5.gr s6.gr
        have ty6 := ty5.gr s6.gr
        have npwg : pw ≠ g := (hg2.ne hpw).symm
        have nstg : pst ≠ g := (hg2.ne hpst2).symm
        refine ⟨2, rfl, by decide, by decide, for_it (walk_range (lo := 0) (n := ((2 : Int)).toNat)) (fun k σ' H' => ∃ o5 o11 o12 o13, σ' = [some (.ref g), some y, some (.ref pw), some (.ref pd), some (.ref pst), o5, o6, o7, o8, o9, o10, o11, o12, o13] ∧ But g H6 H' ∧ Gn H' g (B0 + 4 + 4 * k))
          ⟨_, _, _, _, rfl, But.refl _ _, hg6.le (by omega)⟩ (fun _ _ _ _ _ => trivial) ?_ ?_⟩
        · rintro k x σ' H7 H7' hk ⟨o5, o11, o12, o13, rfl, b7, hg7⟩ ⟨rfl, rfl⟩
          have hk2 : k < 2 := hk
          have lw7 := b7 _ _ npwg lw6
          refine ⟨.ref g, rfl, .ref pw, rfl, pw, xw, rfl, .inl (SqL.of lw7), g, _, _, rfl, by omega, by omega, hg7, by omega, fun r H8 r0 r1 b8 hg8 => ?_⟩
          obtain ⟨i, rfl⟩ : ∃ i : Nat, r = i := ⟨r.toNat, by omega⟩
          have hi : i < (csOf L).length := by omega
          obtain ⟨c, hc⟩ : ∃ c, (csOf L)[i]? = some c := ⟨(csOf L)[i], by rw [List.getElem?_eq_getElem hi]⟩
          have cok := cs_ok hL (List.mem_of_getElem? hc)
          have b68 := b7.trans b8
          have g68 : Gr H6 H8 := hg6.gr b68
          have lw8 := b8 _ _ npwg lw7
          obtain ⟨xi, hxi, txi⟩ := (tw6.gr g68).get (i := i) (d := dC c) (by rw [List.getElem?_map, hc]; rfl)
          have ty8 := ty6.gr g68
          refine ⟨y, rfl, .ref pw, rfl, .int i, rfl, pw, xw, i, xi, rfl, rfl, SqL.of lw8, atI_nat hxi, [dL L, dC c], .int c.must, .cons ty8 (.cons txi .nil), ⟨L, c, lOk, cok, rfl, rfl⟩, fun vm H9 s9 tm => ?_⟩
          cases tm.int_inv
          have s9b : But g H8 H9 := s9.but
          have b69 := b68.trans s9b
          have g69 : Gr H6 H9 := hg6.gr b69
          have hst9 := b69 _ _ nstg hst6
          refine ⟨.ref pst, rfl, .int i, rfl, pst, i, ktOf L, qs, rfl, kt_tok L hL, by rw [← (cs_len L hL).1]; exact hi, hst9, Paired.mapP hpr fun a row ⟨h1, h2, xs', h3, h4⟩ => ⟨xs', b69 _ _ (hg2.ne h2).symm (s6 _ _ h3), (h4.gr s6.gr).gr g69⟩, fun pk ys Ha hpk sa hka hsort hnd hmem => ⟨_, _, rfl, ?_⟩⟩
          obtain ⟨k1, k2⟩ := kinds_at hL hc hsort hnd hmem
          -- '' told
          refine ⟨.ref pk, rfl, pk, _, rfl, .inl (SqL.of hka), rfl, flat_strs _, .int c.must, rfl, rfl, rfl, _, rfl, ?_⟩
          rw [if_neg Bool.false_ne_true, inV_str, k1]
          have hdd : decide (V.int (c.must : Nat) = V.int 0) = decide (c.must = 0) := decide_eq_decide.mpr ⟨fun z => by have := V.int.inj z; omega, fun z => by rw [z]; rfl⟩
          rw [hdd, decide_eq_true (rfl : V.bl (decide (c.must = 0)) = V.bl (decide (c.must = 0)))]
          refine iteF ?_
          have b6a : But g H6 Ha := b69.trans sa.but
          have hga : Gn Ha g (B0 + 4 + 4 * (k : Nat) + 4) := (hg8.same s9).same sa
          rcases must01 c with hm | hm
          · refine test_eqI (i := (c.must : Int)) (b := false) rfl (decide_eq_false (by omega)) (iteF (iteF ⟨_, _, _, _, rfl, b6a, hga.le (by omega)⟩))
          · refine test_eqI (i := (c.must : Int)) (b := true) rfl (decide_eq_true (by omega)) (iteT ?_)
            have g6a : Gr H6 Ha := hg6.gr b6a
            obtain ⟨xi2, hxi2, txi2⟩ := (tw6.gr g6a).get (i := i) (d := dC c) (by rw [List.getElem?_map, hc]; rfl)
            refine ⟨y, rfl, .ref pw, rfl, .int i, rfl, pw, xw, i, xi2, rfl, rfl, SqL.of (b6a _ _ npwg lw6), atI_nat hxi2, [dL L, dC c], _, .cons (ty6.gr g6a) (.cons txi2 .nil), ⟨L, c, lOk, cok, rfl, rfl⟩, fun pf xf Hb hpf sb hfb tfb => ?_⟩
            have hys := k2 (by omega)
            obtain ⟨f1, f2, f3⟩ := firsts_shw c.even c.done (c.enA L) (c.enO L)
            refine ⟨.ref pk, rfl, .ref pf, .ref pk, _, rfl, ⟨.lst (SqL.of hfb) tfb.dp, f1, f2, f3, .inr ⟨_, rfl⟩⟩, ⟨.lst (SqL.of (sb _ _ hka)) ?_, f1, f2, f3, .inr ⟨_, rfl⟩⟩, true, rfl, iteF ⟨_, _, _, _, rfl, b6a.trans sb.but, (hga.same sb).le (by omega)⟩⟩
            rw [hys]
            exact (tpa_strs K _ _).dp
        · rintro σ' H7 ⟨o5, o11, o12, o13, rfl, b7, hg7⟩
          exact q H7 ((bt0.trans s26.but).trans b7)
end
end Hw

set_option Elab.async false
set_option linter.all false
set_option maxRecDepth 100000
set_option maxHeartbeats 400000
/-! HL: the law. -/
namespace Hw
open PySem PySem.Spec PyProof.Rows L2
theorem if_same_or {K : PySem.W.Frag} {Γ : Cty} {ta tb : TE} {c2 : TT} {t u : TS} {D : Ends} {σ : L2.St} {H : Hp} {n : Nat} (E : EnvD K H σ Γ) (h1 : EvD K ta Γ (.int n)) (h2 : EvD K tb Γ (.int n)) (hn : n ≤ 1)
    (k : ∀ H', Same H H' → c2 σ H' fun b H2 => if b = true then t D σ H2 else u D σ H2) : tIfS (tOr (tNot (tB (tCall (spSame K) [] E0 (tCons ta (tCons tb tNil))))) c2) t u D σ H := by
  refine h1 σ H E _ fun v1 H1 s1 t1 => h2 σ H1 (E.gr s1.gr) _ fun v2 H2 s2 t2 => ?_
  refine ⟨v1, v2, .int n, rfl, shw_int (t1.gr s2.gr) hn, shw_int t2 hn, true, rfl, iteF ?_⟩
  exact k H2 (s1.trans s2)
theorem ret_same {K : PySem.W.Frag} {Γ : Cty} {ta tb : TE} {D : Ends} {σ : L2.St} {H : Hp} {ds : List PyData} (E : EnvD K H σ Γ) (h1 : EvL K ta Γ ds) (h2 : EvL K tb Γ ds) (o1 : okD (.list ds) = true) (o2 : (PyData.list ds).depth ≤ 64) (o3 : (PyData.list ds).bulk ≤ 1000)
    (k : ∀ H', D.rt (.bl true) H') : tRet (tCall (spSame K) [] E0 (tCons ta (tCons tb tNil))) D σ H := by
  change ta σ H (fun v H1 => tb σ H1 fun u H2 => spSame K [v, u] H2 D.rt E0)
  refine h1 σ H E _ fun p xs H1 hp s1 l1 t1 => h2 σ H1 (E.gr s1.gr) _ fun r ys H2 hr s2 l2 t2 => ?_
  exact ⟨.ref p, .ref r, .list ds, rfl, ⟨dp_list (s2 _ _ l1) (t1.gr s2.gr), o1, o2, o3, .inr ⟨_, rfl⟩⟩, ⟨dp_list l2 t2, o1, o2, o3, .inr ⟨_, rfl⟩⟩, k H2⟩
theorem nat_ok {n : Nat} (h : n ≤ 4 * 10 ^ 20) : okD (.int n) = true := by
  have h1 : (0 : Int) ≤ n := by omega
  have h2 : (n : Int) < 10 ^ 30 := by omega
  unfold okD
  rw [decide_eq_true h1, decide_eq_true h2, Bool.and_self]
theorem lc_shw {L : Lk} {c : Ct} (s : L.Sm (10 ^ 20)) (o : c.Ok L) : okD (.list [dL L, dC c]) = true ∧ (PyData.list [dL L, dC c]).depth ≤ 64 ∧ (PyData.list [dL L, dC c]).bulk ≤ 1000 := by
  have h1 := s.c; have h2 := s.d; have h3 := s.p; have h4 := s.q
  have c1 := o.bit; have c2 := o.heard; have c3 := o.own; have c4 := o.there; have c5 := o.back
  have eL : okD (dL L) = true := by
    show (okD (.int L.c) && (okD (.int L.d) && (okD (.int L.p) && (okD (.int L.q) && true)))) = true
    rw [nat_ok (by omega), nat_ok (by omega), nat_ok (by omega), nat_ok (by omega)]; rfl
  have eS : okD (dS c.bit c.heard) = true := by
    show (okD (.int c.bit) && (okD (.int c.heard) && true)) = true
    rw [nat_ok (by omega), nat_ok (by omega)]; rfl
  have eT : okD (dT c.n c.z c.o) = true := by
    show (okD (.int c.n) && (okD (.int c.z) && (okD (.int c.o) && true))) = true
    rw [nat_ok (by omega), nat_ok (by omega), nat_ok (by omega)]; rfl
  have eB : okD (dB c.b0 c.b1) = true := by
    show (okD (.int c.b0) && (okD (.int c.b1) && true)) = true
    rw [nat_ok (by omega), nat_ok (by omega)]; rfl
  have lot : okD (dLot c.lot) = true ∧ (dLot c.lot).depth ≤ 1 ∧ (dLot c.lot).bulk ≤ 10 := by
    have hl := o.lot
    rcases hc : c.lot with _ | ⟨nw, m⟩
    · exact ⟨rfl, Nat.zero_le _, Nat.zero_le _⟩
    · rw [hc] at hl
      have hm : m + 1 ≤ L.p := hl.2.1
      have e : okD (.int m) = true := nat_ok (by omega)
      cases nw with
      | true =>
        refine ⟨?_, (by show max 0 (max 0 0) + 1 ≤ 1; decide), (by show ("new" : Str).cps.size + 1 + (0 + 1 + 0) ≤ 10; decide +kernel)⟩
        show (okD (.str "new") && (okD (.int m) && true)) = true
        rw [e]; decide +kernel
      | false =>
        refine ⟨?_, (by show max 0 (max 0 0) + 1 ≤ 1; decide), (by show ("old" : Str).cps.size + 1 + (0 + 1 + 0) ≤ 10; decide +kernel)⟩
        show (okD (.str "old") && (okD (.int m) && true)) = true
        rw [e]; decide +kernel
  have eR : okD (dR c.own c.lot c.done) = true := by
    show (okD (.int c.own) && (okD (dLot c.lot) && (true && true))) = true
    rw [nat_ok (by omega), lot.1]; rfl
  refine ⟨?_, ?_, ?_⟩
  · show (okD (dL L) && ((okD (dS c.bit c.heard) && (okD (dR c.own c.lot c.done) && (okD (dT c.n c.z c.o) && (okD (dB c.b0 c.b1) && true)))) && true)) = true
    rw [eL, eS, eR, eT, eB]; rfl
  · show max 1 (max (max 1 (max (max 0 (max (dLot c.lot).depth (max 0 0)) + 1) (max 1 (max 1 0))) + 1) 0) + 1 ≤ 64
    omega
  · show 4 + 1 + ((2 + 1 + ((0 + 1 + ((dLot c.lot).bulk + 1 + (0 + 1 + 0))) + 1 + (3 + 1 + (2 + 1 + 0)))) + 1 + 0) ≤ 1000
    omega
theorem Lk.Sm.mono {L : Lk} {m n : Nat} (h : L.Sm m) (l : m ≤ n) : L.Sm n := ⟨by have := h.c; omega, by have := h.d; omega, by have := h.p; omega, by have := h.q; omega⟩
section
variable {P : Program} {w : World} {K : PySem.W.Frag} {mg : Str → Option Value} {base : Heap} {f : Addr} {fd : FuncData}
abbrev s_law : Stmt := topS 59
theorem sc_law : FnScope ["_law_script", "_law_index", "_law_generator_here", "_law_link_here", "_law_contents_there", "_law_kept", "_law_due"] ["_law_script"] (defScope s_law) := ⟨rfl, rfl, rfl, by decide +kernel, rfl, by decide +kernel, by decide +kernel⟩
def spLaw (K : PySem.W.Frag) : Sp := fun vs H Q _ => ∃ (a : Addr) (ns : List Int), vs = [.ref a] ∧ SqL K H a (ns.map V.int) ∧ ∀ H', Q (.bl true) H'
theorem ok_law (F : Fun K "law" "law" s_law f fd) (B : Bt mg) (g__law_random : Fn P w K mg base 2 "_law_random" ["_law_generator_here", "_law_bound"] spRandom) (g__law_generator : Fn P w K mg base 2 "_law_generator" ["_law_script", "_law_index"] (spGen K))
    (g__law_size : Fn P w K mg base 3 "_law_size" ["_law_generator_here", "_law_least", "_law_most"] spSize) (g__law_power : Fn P w K mg base 1 "_law_power" ["_law_many"] spPower) (g__law_link : Fn P w K mg base 4 "_law_link" ["_law_generator_here", "_law_most", "_law_tight"] (spLink K))
    (g__law_contents : Fn P w K mg base 4 "_law_contents" ["_law_generator_here", "_law_link_here"] (spContents K)) (g_must : Fn P w K mg base 8 "must" ["link", "contents"] (spR K R_must))
    (g__law_same : FnN P w K mg base 1 "_law_same" ["_law_one_told", "_law_other_told"] (spSame K)) (g__law_small_right : FnN P w K mg base 9 "_law_small_right" ["_law_generator_here"] spSmall) : FnG P w K mg base 10 f fd ["_law_script"] (spLaw K) := by
  refine fun_okG F sc_law (fun vs H Q E h => by obtain ⟨_, _, rfl, _⟩ := h; rfl) (fun cdv A outer s H vs Q E hr hgd h => ?_)
  obtain ⟨a, ns, rfl, hS, q⟩ := h
  refine ⟨_, (pss_cons (ps_if (pt_not (pt_val (pe_fnG hgd g__law_small_right (hr.mono (by decide)) (by rfl) (pa_cons (pe_fn g__law_generator (hr.mono (by decide)) (by rfl) (pa_cons (pv 0) (pa_cons pe_int pa_nil))) pa_nil))))
         (pss_one (ps_ret pe_bl))
         pss_nil)
        (pss_cons (ps_for PassesOwn.never rfl (pi_range2 (by rfl) B.range (pa_cons pe_int (pa_cons pe_int pa_nil))) (pg_name (i := 1) sc_law.nd rfl (.inl rfl))
         (pss_cons (ps_set (i := 2) sc_law.nd rfl (.inl rfl) (pe_fn g__law_generator (hr.mono (by decide)) (by rfl) (pa_cons (pv 0) (pa_cons (pv 1) pa_nil))))
          (pss_cons (ps_set (i := 3) sc_law.nd rfl (.inl rfl) (pe_fn g__law_link (hr.mono (by decide)) (by rfl) (pa_cons (pv 2) (pa_cons (pe_fn g__law_power (hr.mono (by decide)) (by rfl) (pa_cons (pe_fn g__law_size (hr.mono (by decide)) (by rfl) (pa_cons (pv 2) (pa_cons pe_int (pa_cons pe_int pa_nil)))) pa_nil)) (pa_cons (pe_cmpR op_eq (pe_fn g__law_random (hr.mono (by decide)) (by rfl) (pa_cons (pv 2) (pa_cons pe_int pa_nil))) pe_int (nomark _)) pa_nil)))))
          (pss_cons (ps_set (i := 4) sc_law.nd rfl (.inl rfl) (pe_fn g__law_contents (hr.mono (by decide)) (by rfl) (pa_cons (pv 2) (pa_cons (pv 3) pa_nil))))
          (pss_cons (ps_set (i := 5) sc_law.nd rfl (.inl rfl) (pe_callB (call_reprD hgd (hu100 hr)) (by rfl) B.repr (by decide +kernel) (pa_cons (pe_lst (pa_cons (pv 3) (pa_cons (pv 4) pa_nil))) pa_nil)))
          (pss_cons (ps_set (i := 6) sc_law.nd rfl (.inl rfl) (pe_callTy call_int1 (by rfl) B.int (by decide +kernel) (pa_cons (pe_cmpR op_ne (pe_cmpR op_eq (pe_ix ix_tup (pe_ix ix_tup (pv 4) pe_int (fun _ _ => rfl)) pe_int (fun _ _ => rfl)) (pe_ix ix_tup (pe_ix ix_tup (pv 4) pe_int (fun _ _ => rfl)) pe_int (fun _ _ => rfl)) (nomark _)) (pe_ix ix_tup (pe_ix ix_tup (pv 4) pe_int (fun _ _ => rfl)) pe_int (fun _ _ => rfl)) (nomark _)) pa_nil)))
          (pss_one (ps_if (PW.pt (pw_or (pt_not (pt_val (pe_fnG hgd g__law_same (hr.mono (by decide)) (by rfl) (pa_cons (pe_fn g_must (hr.mono (by decide)) (by rfl) (pa_cons (pv 3) (pa_cons (pv 4) pa_nil))) (pa_cons (pv 6) pa_nil))))) (pw_or1 (pt_cmpR op_ne (pe_callB (call_reprD hgd (hu100 hr)) (by rfl) B.repr (by decide +kernel) (pa_cons (pe_lst (pa_cons (pv 3) (pa_cons (pv 4) pa_nil))) pa_nil)) (pv 5) (nomark _)))))
           (pss_one (ps_ret pe_bl))
           pss_nil))))))))
        (pss_one (ps_ret (pe_fnG hgd g__law_same (hr.mono (by decide)) (by rfl) (pa_cons (pe_lst (pa_cons (pe_fn g_must (hr.mono (by decide)) (by rfl) (pa_cons (pe_tup (pa_cons pe_int (pa_cons pe_int (pa_cons pe_int (pa_cons pe_int pa_nil))))) (pa_cons (pe_tup (pa_cons (pe_tup (pa_cons pe_int (pa_cons pe_int pa_nil))) (pa_cons (pe_tup (pa_cons pe_int (pa_cons pe_non (pa_cons pe_bl pa_nil)))) (pa_cons (pe_tup (pa_cons pe_int (pa_cons pe_int (pa_cons pe_int pa_nil)))) (pa_cons (pe_tup (pa_cons pe_int (pa_cons pe_int pa_nil))) pa_nil))))) pa_nil))) (pa_cons (pe_fn g_must (hr.mono (by decide)) (by rfl) (pa_cons (pe_tup (pa_cons pe_int (pa_cons pe_int (pa_cons pe_int (pa_cons pe_int pa_nil))))) (pa_cons (pe_tup (pa_cons (pe_tup (pa_cons pe_int (pa_cons pe_int pa_nil))) (pa_cons (pe_tup (pa_cons pe_int (pa_cons pe_non (pa_cons pe_bl pa_nil)))) (pa_cons (pe_tup (pa_cons pe_int (pa_cons pe_int (pa_cons pe_int pa_nil)))) (pa_cons (pe_tup (pa_cons pe_int (pa_cons pe_int pa_nil))) pa_nil))))) pa_nil))) pa_nil))) (pa_cons (pe_lst (pa_cons pe_int (pa_cons pe_int pa_nil))) pa_nil))))))), ?_⟩
  -- the small links
  refine ⟨.ref a, rfl, a, ns, 0, rfl, hS, by decide, by decide, fun g H1 hg s1 hG => ⟨g, _, rfl, hG, by decide, fun H2 b2 => ⟨true, rfl, iteF ?_⟩⟩⟩
  have s2 : Same H H2 := same_but s1 hg b2
  -- five draws
  refine ⟨1, 6, rfl, ⟨by decide, by decide, by decide, by decide⟩, for_it (walk_range (lo := 1) (n := ((6 : Int) - 1).toNat)) (fun k σ' H' => ∃ o1 o2 o3 o4 o5 o6, σ' = [some (.ref a), o1, o2, o3, o4, o5, o6] ∧ Same H H')
    ⟨_, _, _, _, _, _, rfl, s2⟩ (fun _ _ _ _ _ => trivial) ?_ ?_⟩
  · rintro k x σ' H3 H3' hk ⟨o1, o2, o3, o4, o5, o6, rfl, s3⟩ ⟨rfl, rfl⟩
    have hk5 : k < 5 := hk
    refine ⟨.ref a, rfl, .int (1 + k), rfl, a, ns, 1 + k, rfl, s3.seq hS, by omega, by omega, fun g H4 hg4 s4 hG4 => ?_⟩
    refine ⟨.ref g, rfl, .ref g, rfl, g, 0, 20, _, rfl, by decide, by decide, hG4, by omega, fun m H5 m0 m1 b5 hG5 => ?_⟩
    obtain ⟨mn, rfl⟩ : ∃ n : Nat, m = n := ⟨m.toNat, by omega⟩
    refine ⟨mn, rfl, by omega, .ref g, rfl, g, 2, _, rfl, by decide, by decide, hG5, by omega, fun r H6 r0 r1 b6 hG6 => ⟨rfl, ?_⟩⟩
    have hp20 : 10 ^ mn ≤ 10 ^ 20 := Nat.pow_le_pow_right (by decide) (by omega)
    have hp1 : 1 ≤ 10 ^ mn := Nat.one_le_pow _ _ (by decide)
    refine ⟨g, 10 ^ mn, _, _, by rw [show ((10 : Int) ^ mn) = ((10 ^ mn : Nat) : Int) from by simp [Int.natCast_pow]]; rfl, hp1, hp20, hG6, by omega, fun v L H7 lOk lSm b7 hG7 tv => ?_⟩
    have sm := lSm.mono hp20
    refine ⟨.ref g, rfl, v, rfl, g, v, L, _, rfl, lOk, sm, tv, hG7, by omega, fun u c H8 cok b8 hG8 tu => ?_⟩
    have tv8 := tv.gr (hG7.gr b8)
    have b48 : But g H4 H8 := ((b5.trans b6).trans b7).trans b8
    have s8 : Same H H8 := same_but (s3.trans s4) (s3.free hg4) b48
    obtain ⟨w1, w2, w3⟩ := lc_shw sm cok
    -- kept
    refine ⟨v, rfl, u, rfl, (by decide : 2 ≤ sizeLine), fun l hl => ⟨.ref l, .list [dL L, dC c], rfl, dp_list upd_same (.cons (tv8.gr (same_new hl).gr) (.cons (tu.gr (same_new hl).gr) .nil)), w1, w2, w3, .inr ⟨l, rfl⟩, ?_⟩⟩
    have s9 : Same H8 (upd H8 l (.lst [v, u])) := same_new hl
    have E9 : EnvD K (upd H8 l (.lst [v, u])) [some (.ref a), some (.int (1 + k)), some (.ref g), some v, some u, some (.str (PyData.list [dL L, dC c]).shown), o6]
        [none, none, none, some (.dat (dL L)), some (.dat (dC c)), none, none] :=
      ((envNone (K := K) (H := upd H8 l (.lst [v, u])) [some (.ref a), some (.int (1 + k)), some (.ref g), some v, some u, some (.str (PyData.list [dL L, dC c]).shown), o6]).set (A := .dat (dL L)) 3 (tv8.gr s9.gr)).set (A := .dat (dC c)) 4 (tu.gr s9.gr)
    refine seq_asgD (due_ed (j := 4) rfl) E9 fun vd Ha sa td => ?_
    have E10 : EnvD K Ha [some (.ref a), some (.int (1 + k)), some (.ref g), some v, some u, some (.str (PyData.list [dL L, dC c]).shown), some vd]
        [none, none, none, some (.dat (dL L)), some (.dat (dC c)), none, some (.dat (.int c.must))] := (E9.gr sa.gr).set (A := .dat (.int c.must)) 6 td
    have hm1 : c.must ≤ 1 := by rcases must01 c with h | h <;> omega
    refine if_same_or E10 (ed_call (R := R_must) (ds := [dL L, dC c]) (d := .int c.must) (ea_cons (ed_var (i := 3) rfl) (ea_cons (ed_var (i := 4) rfl) ea_nil)) ⟨L, c, lOk, cok, rfl, rfl⟩) (ed_var (i := 6) rfl) hm1 fun Hb sb => ?_
    have g8b : Gr H8 Hb := (s9.gr.trans sa.gr).trans sb.gr
    refine ⟨v, rfl, u, rfl, (by decide : 2 ≤ sizeLine), fun l2 hl2 => ⟨.ref l2, .list [dL L, dC c], rfl, dp_list upd_same (.cons ((tv8.gr g8b).gr (same_new hl2).gr) (.cons ((tu.gr g8b).gr (same_new hl2).gr) .nil)), w1, w2, w3, .inr ⟨l2, rfl⟩, .str (PyData.list [dL L, dC c]).shown, rfl, rfl, _, rfl, ?_⟩⟩
    rw [decide_eq_true (rfl : V.str (PyData.list [dL L, dC c]).shown = V.str (PyData.list [dL L, dC c]).shown)]
    exact iteF ⟨_, _, _, _, _, _, rfl, (((s8.trans s9).trans sa).trans sb).trans (same_new hl2)⟩
  · rintro σ' H3 ⟨o1, o2, o3, o4, o5, o6, rfl, s3⟩
    have lOk1 : Lk.Ok ⟨1, 1, 1, 1⟩ := small_ok _ (by simp [smallL])
    dsimp only
    refine ret_same (K := K) (Γ := List.replicate 7 none) (ds := [.int 0, .int 1]) (envNone (K := K) (H := H3) [some (.ref a), o1, o2, o3, o4, o5, o6])
      (el_lst (ea_cons (ed_call (R := R_must) (ds := [dL ⟨1, 1, 1, 1⟩, dC ⟨0, 0, 1, none, false, 0, 0, 0, 0, 0⟩]) (d := .int 0) ?_ ⟨_, _, lOk1, okB_ok (by decide), rfl, rfl⟩) (ea_cons (ed_call (R := R_must) (ds := [dL ⟨1, 1, 1, 1⟩, dC ⟨0, 0, 0, none, false, 0, 0, 0, 0, 0⟩]) (d := .int 1) ?_ ⟨_, _, lOk1, okB_ok (by decide), rfl, rfl⟩) ea_nil)) (by simp))
      (el_lst (ea_cons ed_int (ea_cons ed_int ea_nil)) (by simp)) (by decide +kernel) (by decide) (by decide) (fun H' => ?_)
    · exact ea_cons (ed_tup (ea_cons ed_int (ea_cons ed_int (ea_cons ed_int (ea_cons ed_int ea_nil)))) (by simp)) (ea_cons (ed_tup (ea_cons (ed_tup (ea_cons ed_int (ea_cons ed_int ea_nil)) (by simp)) (ea_cons (ed_tup (ea_cons ed_int (ea_cons ed_non (ea_cons ed_bl ea_nil))) (by simp))
        (ea_cons (ed_tup (ea_cons ed_int (ea_cons ed_int (ea_cons ed_int ea_nil))) (by simp)) (ea_cons (ed_tup (ea_cons ed_int (ea_cons ed_int ea_nil)) (by simp)) ea_nil)))) (by simp)) ea_nil)
    · exact ea_cons (ed_tup (ea_cons ed_int (ea_cons ed_int (ea_cons ed_int (ea_cons ed_int ea_nil)))) (by simp)) (ea_cons (ed_tup (ea_cons (ed_tup (ea_cons ed_int (ea_cons ed_int ea_nil)) (by simp)) (ea_cons (ed_tup (ea_cons ed_int (ea_cons ed_non (ea_cons ed_bl ea_nil))) (by simp))
        (ea_cons (ed_tup (ea_cons ed_int (ea_cons ed_int (ea_cons ed_int ea_nil))) (by simp)) (ea_cons (ed_tup (ea_cons ed_int (ea_cons ed_int ea_nil)) (by simp)) ea_nil)))) (by simp)) ea_nil)
    · exact q H'
end
end Hw

set_option Elab.async false
set_option linter.all false
set_option maxRecDepth 100000
set_option maxHeartbeats 0
/-! HD: what the top leaves, by one run in the kernel. -/
namespace Hw
open PySem PySem.Spec PyProof.Rows L2
def loose0 : List PySem.Str := ["WireError", "InvalidLink", "InvalidContents", "Unlike", "is_whole", "is_between", "link_fits", "check_link", "sound_fits", "check_sound", "bit_fits", "counts_fit", "lot_fits", "hosts_fit", "contents_fit", "check_contents", "even_fits", "old_of", "answers_of", "answers_in", "old_in", "signs_in", "LETTERS", "WRONG", "check_fated", "longest_fates", "fates_in", "firsts", "must_in", "must"]
def loose1 : List PySem.Str := ["_law_hash", "_law_random", "_law_cell", "_law_generator", "_law_size", "_law_same", "_law_more", "_law_step", "_law_events", "_law_wires", "_law_lots", "_law_all", "_law_count", "_law_contents", "_law_link", "_law_moves", "_law_graph", "_law_ahead", "_law_coming", "_law_fates", "_law_spread", "_law_small_right", "_law_power"]
def loose : List PySem.Str := loose0 ++ loose1
def fn0 : List He.DefD := [⟨("is_whole", none), "is_whole", "is_whole", defArgs (topS 6), defBody (topS 6), defScope (topS 6), [], []⟩, ⟨("is_between", none), "is_between", "is_between", defArgs (topS 7), defBody (topS 7), defScope (topS 7), [], []⟩, ⟨("link_fits", none), "link_fits", "link_fits", defArgs (topS 8), defBody (topS 8), defScope (topS 8), [], []⟩, ⟨("check_link", none), "check_link", "check_link", defArgs (topS 9), defBody (topS 9), defScope (topS 9), [], []⟩, ⟨("sound_fits", none), "sound_fits", "sound_fits", defArgs (topS 10), defBody (topS 10), defScope (topS 10), [], []⟩, ⟨("check_sound", none), "check_sound", "check_sound", defArgs (topS 11), defBody (topS 11), defScope (topS 11), [], []⟩, ⟨("bit_fits", none), "bit_fits", "bit_fits", defArgs (topS 12), defBody (topS 12), defScope (topS 12), [], []⟩, ⟨("counts_fit", none), "counts_fit", "counts_fit", defArgs (topS 13), defBody (topS 13), defScope (topS 13), [], []⟩, ⟨("lot_fits", none), "lot_fits", "lot_fits", defArgs (topS 14), defBody (topS 14), defScope (topS 14), [], []⟩, ⟨("hosts_fit", none), "hosts_fit", "hosts_fit", defArgs (topS 15), defBody (topS 15), defScope (topS 15), [], []⟩, ⟨("contents_fit", none), "contents_fit", "contents_fit", defArgs (topS 16), defBody (topS 16), defScope (topS 16), [], []⟩, ⟨("check_contents", none), "check_contents", "check_contents", defArgs (topS 17), defBody (topS 17), defScope (topS 17), [], []⟩, ⟨("even_fits", none), "even_fits", "even_fits", defArgs (topS 18), defBody (topS 18), defScope (topS 18), [], []⟩, ⟨("old_of", none), "old_of", "old_of", defArgs (topS 19), defBody (topS 19), defScope (topS 19), [], []⟩, ⟨("answers_of", none), "answers_of", "answers_of", defArgs (topS 20), defBody (topS 20), defScope (topS 20), [], []⟩, ⟨("answers_in", none), "answers_in", "answers_in", defArgs (topS 22), defBody (topS 22), defScope (topS 22), [], []⟩, ⟨("old_in", none), "old_in", "old_in", defArgs (topS 23), defBody (topS 23), defScope (topS 23), [], []⟩, ⟨("signs_in", none), "signs_in", "signs_in", defArgs (topS 24), defBody (topS 24), defScope (topS 24), [], []⟩, ⟨("check_fated", none), "check_fated", "check_fated", defArgs (topS 28), defBody (topS 28), defScope (topS 28), [], []⟩, ⟨("longest_fates", none), "longest_fates", "longest_fates", defArgs (topS 29), defBody (topS 29), defScope (topS 29), [], []⟩, ⟨("fates_in", none), "fates_in", "fates_in", defArgs (topS 30), defBody (topS 30), defScope (topS 30), [], []⟩, ⟨("firsts", none), "firsts", "firsts", defArgs (topS 31), defBody (topS 31), defScope (topS 31), [], []⟩, ⟨("must_in", none), "must_in", "must_in", defArgs (topS 33), defBody (topS 33), defScope (topS 33), [], []⟩, ⟨("must", none), "must", "must", defArgs (topS 34), defBody (topS 34), defScope (topS 34), [], []⟩, ⟨("_law_hash", none), "_law_hash", "_law_hash", defArgs (topS 36), defBody (topS 36), defScope (topS 36), [], []⟩, ⟨("_law_random", none), "_law_random", "_law_random", defArgs (topS 37), defBody (topS 37), defScope (topS 37), [], []⟩, ⟨("_law_cell", none), "_law_cell", "_law_cell", defArgs (topS 38), defBody (topS 38), defScope (topS 38), [], []⟩, ⟨("_law_generator", none), "_law_generator", "_law_generator", defArgs (topS 39), defBody (topS 39), defScope (topS 39), [], []⟩, ⟨("_law_size", none), "_law_size", "_law_size", defArgs (topS 40), defBody (topS 40), defScope (topS 40), [], []⟩, ⟨("_law_same", none), "_law_same", "_law_same", defArgs (topS 41), defBody (topS 41), defScope (topS 41), [], []⟩]
def fn1 : List He.DefD := [⟨("_law_more", none), "_law_more", "_law_more", defArgs (topS 42), defBody (topS 42), defScope (topS 42), [], []⟩, ⟨("_law_step", none), "_law_step", "_law_step", defArgs (topS 43), defBody (topS 43), defScope (topS 43), [], []⟩, ⟨("_law_events", none), "_law_events", "_law_events", defArgs (topS 44), defBody (topS 44), defScope (topS 44), [], []⟩, ⟨("_law_wires", none), "_law_wires", "_law_wires", defArgs (topS 45), defBody (topS 45), defScope (topS 45), [], []⟩, ⟨("_law_lots", none), "_law_lots", "_law_lots", defArgs (topS 46), defBody (topS 46), defScope (topS 46), [], []⟩, ⟨("_law_all", none), "_law_all", "_law_all", defArgs (topS 47), defBody (topS 47), defScope (topS 47), [], []⟩, ⟨("_law_count", none), "_law_count", "_law_count", defArgs (topS 48), defBody (topS 48), defScope (topS 48), [], []⟩, ⟨("_law_contents", none), "_law_contents", "_law_contents", defArgs (topS 49), defBody (topS 49), defScope (topS 49), [], []⟩, ⟨("_law_link", none), "_law_link", "_law_link", defArgs (topS 50), defBody (topS 50), defScope (topS 50), [], []⟩, ⟨("_law_moves", none), "_law_moves", "_law_moves", defArgs (topS 51), defBody (topS 51), defScope (topS 51), [], []⟩, ⟨("_law_spread", none), "_law_spread", "_law_spread", defArgs (topS 56), defBody (topS 56), defScope (topS 56), [], []⟩, ⟨("_law_small_right", none), "_law_small_right", "_law_small_right", defArgs (topS 57), defBody (topS 57), defScope (topS 57), [], []⟩, ⟨("_law_power", none), "_law_power", "_law_power", defArgs (topS 58), defBody (topS 58), defScope (topS 58), [], []⟩, ⟨("law", none), "law", "law", defArgs (topS 59), defBody (topS 59), defScope (topS 59), [], []⟩]
def fn : List He.DefD := fn0 ++ fn1
def fa0 : List He.Fa := [.glo "is_whole", .glo "is_between", .glo "link_fits", .glo "check_link", .glo "sound_fits", .glo "check_sound", .glo "bit_fits", .glo "counts_fit", .glo "lot_fits", .glo "hosts_fit", .glo "contents_fit", .glo "check_contents", .glo "even_fits", .glo "old_of", .glo "answers_of", .glo "answers_in", .glo "old_in", .glo "signs_in", .glo "check_fated", .glo "longest_fates", .glo "fates_in", .glo "firsts", .glo "must_in", .glo "must", .glo "_law_hash", .glo "_law_random", .glo "_law_cell", .glo "_law_generator", .glo "_law_size", .glo "_law_same"]
def fa1 : List He.Fa := [.glo "_law_more", .glo "_law_step", .glo "_law_events", .glo "_law_wires", .glo "_law_lots", .glo "_law_all", .glo "_law_count", .glo "_law_contents", .glo "_law_link", .glo "_law_moves", .glo "_law_spread", .glo "_law_small_right", .glo "_law_power", .glo "law", .glo "LETTERS", .glo "WRONG", .free "isinstance", .free "int", .free "bool", .free "tuple", .free "len", .free "sum", .free "str", .free "range", .free "sorted", .free "max", .free "enumerate", .free "repr"]
def fa : List He.Fa := fa0 ++ fa1
def ts : List He.Tab := [(fun K => He.ga K "LETTERS", ["l", "m", "t"])]
def exB (K : PySem.W.Frag) : Bool := He.valsB K (He.ga K "LETTERS") [("l", .str "lost"), ("m", .str "made"), ("t", .str "twice")] && He.tupB K "WRONG" [.str "lost", .str "made", .str "twice"]
abbrev RR : PySem.W.OpenRow := PySem.W.OpenLaw.row PySem.Challenge.rw_healwires_k30_whole_what_must_go_wrong
abbrev hk : PySem.W.Hook := He.hookX 4 fa fn ts [] exB
def ob (s : PySem.W.SharedT) : He.AlX := He.obsX 4 fa fn ts [] exB (HandSHeadRun.getT s)
theorem ob_eq (s : PySem.W.SharedT) : ob s = hk.obs s.abs := He.obsX_eq (HandSHeadRun.getT_eq s)
theorem run (w : World) : HandSHeadRun.RunEq RR (PySem.W.view RR.prog [59]) hk ob 6000 loose w :=
  PySem.W.byRow2 "special-get-raises" (P := fun w => HandSHeadRun.RunEq RR (PySem.W.view RR.prog [59]) hk ob 6000 loose w) (fun w os => by kernel_rfl) (fun w os => by kernel_rfl) w
end Hw

set_option Elab.async false
set_option linter.all false
set_option maxRecDepth 100000
set_option maxHeartbeats 4000000
/-! HE: the defs together, the law's end. -/
namespace Hw
open PySem PySem.Spec PyProof.Rows L2
theorem fun_of {K : PySem.W.Frag} {x : Str} {st : Stmt} {f : Addr} {fd : FuncData} (D : FunD K x x (defArgs st) (defBody st) (defScope st) [] [] f fd) : Fun K x x st f fd := by
  obtain ⟨oc, od, dV, kV, doc, pm, an, cdv, ct, osl, h1, h2, h3, h4, _⟩ := D.ex
  rcases h4 with ⟨_, rfl⟩ | ⟨h, _⟩
  · exact ⟨⟨oc, od, kV, doc, pm, an, cdv, ct, osl, h1, h2, h3⟩, D.kp⟩
  · exact absurd rfl h
section
variable {P : Program} {w : World} {K : PySem.W.Frag} {mg : Str → Option Value} {base h : Heap} {k : Nat} {x : Str} {ps : List Str} {sp : Sp} {st : Stmt} {fd : FuncData}
theorem fn_of2 (X : K.In h) (G : h.Ns mainGlobals mg) (c : (He.Fa.glo x).ok K = true) (F : FnOk P w K mg base CX0 k (He.ga K x) fd ps sp) (D : FunD K x x (defArgs st) (defBody st) (defScope st) [] [] (He.ga K x) fd) (b : Binds K fd ps []) : Fn P w K mg base k x ps sp :=
  ⟨_, fd, F, He.glo_ok X G c, D.kp, b⟩
theorem fnN_of (X : K.In h) (G : h.Ns mainGlobals mg) (c : (He.Fa.glo x).ok K = true) (F : FnG P w K mg base k (He.ga K x) fd ps sp) (D : FunD K x x (defArgs st) (defBody st) (defScope st) [] [] (He.ga K x) fd) (b : Binds K fd ps []) : FnN P w K mg base k x ps sp :=
  ⟨_, fd, F, He.glo_ok X G c, D.kp, b⟩
theorem def_of (c : He.SaysD fa fn K) (i : Nat) (x : Str) (st : Stmt) (e : fn[i]? = some ⟨(x, none), x, x, defArgs st, defBody st, defScope st, [], []⟩) : ∃ fd, FunD K x x (defArgs st) (defBody st) (defScope st) [] [] (He.ga K x) fd := c.def_ i e
theorem facts {f : Addr} (X : K.In h) (G : h.Ns mainGlobals mg) (hfa : mg ("law" : Str) = some (.ref f)) (c : He.SaysD fa fn K) (hLet : HasLetters K w (He.ga K "LETTERS")) (hWrong : ∀ H, SqT K H (He.ga K "WRONG") (fateWords.map V.str)) :
    ∃ fd : FuncData, (∀ (s : Shared) (v : Value), BindsTo s fd ⟨[v], []⟩ [("_law_script", v)]) ∧ ∀ base : Heap, K.In base → base.Ns mainGlobals mg → FnG P w K mg base 10 f fd ["_law_script"] (spLaw K) := by
  obtain ⟨fd_is_whole, D_is_whole⟩ := def_of c 0 "is_whole" (topS 6) rfl
  obtain ⟨fd_is_between, D_is_between⟩ := def_of c 1 "is_between" (topS 7) rfl
  obtain ⟨fd_link_fits, D_link_fits⟩ := def_of c 2 "link_fits" (topS 8) rfl
  obtain ⟨fd_check_link, D_check_link⟩ := def_of c 3 "check_link" (topS 9) rfl
  obtain ⟨fd_sound_fits, D_sound_fits⟩ := def_of c 4 "sound_fits" (topS 10) rfl
  obtain ⟨fd_check_sound, D_check_sound⟩ := def_of c 5 "check_sound" (topS 11) rfl
  obtain ⟨fd_bit_fits, D_bit_fits⟩ := def_of c 6 "bit_fits" (topS 12) rfl
  obtain ⟨fd_counts_fit, D_counts_fit⟩ := def_of c 7 "counts_fit" (topS 13) rfl
  obtain ⟨fd_lot_fits, D_lot_fits⟩ := def_of c 8 "lot_fits" (topS 14) rfl
  obtain ⟨fd_hosts_fit, D_hosts_fit⟩ := def_of c 9 "hosts_fit" (topS 15) rfl
  obtain ⟨fd_contents_fit, D_contents_fit⟩ := def_of c 10 "contents_fit" (topS 16) rfl
  obtain ⟨fd_check_contents, D_check_contents⟩ := def_of c 11 "check_contents" (topS 17) rfl
  obtain ⟨fd_check_fated, D_check_fated⟩ := def_of c 18 "check_fated" (topS 28) rfl
  obtain ⟨fd_even_fits, D_even_fits⟩ := def_of c 12 "even_fits" (topS 18) rfl
  obtain ⟨fd_must_in, D_must_in⟩ := def_of c 22 "must_in" (topS 33) rfl
  obtain ⟨fd_must, D_must⟩ := def_of c 23 "must" (topS 34) rfl
  obtain ⟨fd_old_of, D_old_of⟩ := def_of c 13 "old_of" (topS 19) rfl
  obtain ⟨fd_answers_of, D_answers_of⟩ := def_of c 14 "answers_of" (topS 20) rfl
  obtain ⟨fd_answers_in, D_answers_in⟩ := def_of c 15 "answers_in" (topS 22) rfl
  obtain ⟨fd_old_in, D_old_in⟩ := def_of c 16 "old_in" (topS 23) rfl
  obtain ⟨fd_signs_in, D_signs_in⟩ := def_of c 17 "signs_in" (topS 24) rfl
  obtain ⟨fd_longest_fates, D_longest_fates⟩ := def_of c 19 "longest_fates" (topS 29) rfl
  obtain ⟨fd_fates_in, D_fates_in⟩ := def_of c 20 "fates_in" (topS 30) rfl
  obtain ⟨fd_firsts, D_firsts⟩ := def_of c 21 "firsts" (topS 31) rfl
  obtain ⟨fd__law_hash, D__law_hash⟩ := def_of c 24 "_law_hash" (topS 36) rfl
  obtain ⟨fd__law_random, D__law_random⟩ := def_of c 25 "_law_random" (topS 37) rfl
  obtain ⟨fd__law_cell, D__law_cell⟩ := def_of c 26 "_law_cell" (topS 38) rfl
  obtain ⟨fd__law_generator, D__law_generator⟩ := def_of c 27 "_law_generator" (topS 39) rfl
  obtain ⟨fd__law_size, D__law_size⟩ := def_of c 28 "_law_size" (topS 40) rfl
  obtain ⟨fd__law_count, D__law_count⟩ := def_of c 36 "_law_count" (topS 48) rfl
  obtain ⟨fd__law_power, D__law_power⟩ := def_of c 42 "_law_power" (topS 58) rfl
  obtain ⟨fd__law_link, D__law_link⟩ := def_of c 38 "_law_link" (topS 50) rfl
  obtain ⟨fd__law_contents, D__law_contents⟩ := def_of c 37 "_law_contents" (topS 49) rfl
  obtain ⟨fd__law_more, D__law_more⟩ := def_of c 30 "_law_more" (topS 42) rfl
  obtain ⟨fd__law_step, D__law_step⟩ := def_of c 31 "_law_step" (topS 43) rfl
  obtain ⟨fd__law_events, D__law_events⟩ := def_of c 32 "_law_events" (topS 44) rfl
  obtain ⟨fd__law_wires, D__law_wires⟩ := def_of c 33 "_law_wires" (topS 45) rfl
  obtain ⟨fd__law_lots, D__law_lots⟩ := def_of c 34 "_law_lots" (topS 46) rfl
  obtain ⟨fd__law_all, D__law_all⟩ := def_of c 35 "_law_all" (topS 47) rfl
  obtain ⟨fd__law_moves, D__law_moves⟩ := def_of c 39 "_law_moves" (topS 51) rfl
  obtain ⟨fd__law_spread, D__law_spread⟩ := def_of c 40 "_law_spread" (topS 56) rfl
  obtain ⟨fd__law_same, D__law_same⟩ := def_of c 29 "_law_same" (topS 41) rfl
  obtain ⟨fd__law_small_right, D__law_small_right⟩ := def_of c 41 "_law_small_right" (topS 57) rfl
  obtain ⟨fd, D_law⟩ := def_of c 43 "law" (topS 59) rfl
  have e := hfa.symm.trans (He.glo_ok X G (c.fact 43 (f := .glo "law") rfl))
  cases e
  have b := FunD.bindsA (ps := ["_law_script"]) D_law fun _ _ _ _ _ _ us hl => match us, hl with | [_], _ => rfl
  have B : Bt mg := ⟨He.free_ok X G (c.fact 46 (f := .free "isinstance") rfl), He.free_ok X G (c.fact 47 (f := .free "int") rfl), He.free_ok X G (c.fact 48 (f := .free "bool") rfl), He.free_ok X G (c.fact 49 (f := .free "tuple") rfl), He.free_ok X G (c.fact 50 (f := .free "len") rfl), He.free_ok X G (c.fact 51 (f := .free "sum") rfl), He.free_ok X G (c.fact 52 (f := .free "str") rfl), He.free_ok X G (c.fact 53 (f := .free "range") rfl), He.free_ok X G (c.fact 54 (f := .free "sorted") rfl), He.free_ok X G (c.fact 55 (f := .free "max") rfl), He.free_ok X G (c.fact 56 (f := .free "enumerate") rfl), He.free_ok X G (c.fact 57 (f := .free "repr") rfl)⟩
  have mLETTERS := He.glo_ok X G (c.fact 44 (f := .glo "LETTERS") rfl)
  have mWRONG := He.glo_ok X G (c.fact 45 (f := .glo "WRONG") rfl)
  refine ⟨fd, fun s v => b s [v] rfl, fun base _ _ => ?_⟩
  have g_is_whole := fn_of2 (ps := ["value"]) X G (c.fact 0 (f := .glo "is_whole") rfl) (ok_is_whole (P := P) (w := w) (K := K) (mg := mg) (base := base) (fun_of D_is_whole) B ) D_is_whole (FunD.bindsN (ps := ["value"]) D_is_whole fun _ _ _ _ _ _ us hl => match us, hl with | [_], _ => rfl)
  have g_is_between := fn_of2 (ps := ["value", "low", "high"]) X G (c.fact 1 (f := .glo "is_between") rfl) (ok_is_between (P := P) (w := w) (K := K) (mg := mg) (base := base) (fun_of D_is_between) B g_is_whole) D_is_between (FunD.bindsN (ps := ["value", "low", "high"]) D_is_between fun _ _ _ _ _ _ us hl => match us, hl with | [_, _, _], _ => rfl)
  have g_link_fits := fn_of2 (ps := ["value"]) X G (c.fact 2 (f := .glo "link_fits") rfl) (ok_link_fits (P := P) (w := w) (K := K) (mg := mg) (base := base) (fun_of D_link_fits) B g_is_between) D_link_fits (FunD.bindsN (ps := ["value"]) D_link_fits fun _ _ _ _ _ _ us hl => match us, hl with | [_], _ => rfl)
  have g_check_link := fn_of2 (ps := ["link"]) X G (c.fact 3 (f := .glo "check_link") rfl) (ok_check_link (P := P) (w := w) (K := K) (mg := mg) (base := base) (fun_of D_check_link) B g_link_fits) D_check_link (FunD.bindsN (ps := ["link"]) D_check_link fun _ _ _ _ _ _ us hl => match us, hl with | [_], _ => rfl)
  have g_sound_fits := fn_of2 (ps := ["link"]) X G (c.fact 4 (f := .glo "sound_fits") rfl) (ok_sound_fits (P := P) (w := w) (K := K) (mg := mg) (base := base) (fun_of D_sound_fits) B ) D_sound_fits (FunD.bindsN (ps := ["link"]) D_sound_fits fun _ _ _ _ _ _ us hl => match us, hl with | [_], _ => rfl)
  have g_check_sound := fn_of2 (ps := ["link"]) X G (c.fact 5 (f := .glo "check_sound") rfl) (ok_check_sound (P := P) (w := w) (K := K) (mg := mg) (base := base) (fun_of D_check_sound) B g_sound_fits) D_check_sound (FunD.bindsN (ps := ["link"]) D_check_sound fun _ _ _ _ _ _ us hl => match us, hl with | [_], _ => rfl)
  have g_bit_fits := fn_of2 (ps := ["value"]) X G (c.fact 6 (f := .glo "bit_fits") rfl) (ok_bit_fits (P := P) (w := w) (K := K) (mg := mg) (base := base) (fun_of D_bit_fits) B g_is_between) D_bit_fits (FunD.bindsN (ps := ["value"]) D_bit_fits fun _ _ _ _ _ _ us hl => match us, hl with | [_], _ => rfl)
  have g_counts_fit := fn_of2 (ps := ["value", "size", "most"]) X G (c.fact 7 (f := .glo "counts_fit") rfl) (ok_counts_fit (P := P) (w := w) (K := K) (mg := mg) (base := base) (fun_of D_counts_fit) B g_is_between) D_counts_fit (FunD.bindsN (ps := ["value", "size", "most"]) D_counts_fit fun _ _ _ _ _ _ us hl => match us, hl with | [_, _, _], _ => rfl)
  have g_lot_fits := fn_of2 (ps := ["link", "value", "alike"]) X G (c.fact 8 (f := .glo "lot_fits") rfl) (ok_lot_fits (P := P) (w := w) (K := K) (mg := mg) (base := base) (fun_of D_lot_fits) B g_is_between) D_lot_fits (FunD.bindsN (ps := ["link", "value", "alike"]) D_lot_fits fun _ _ _ _ _ _ us hl => match us, hl with | [_, _, _], _ => rfl)
  have g_hosts_fit := fn_of2 (ps := ["link", "sender", "receiver"]) X G (c.fact 9 (f := .glo "hosts_fit") rfl) (ok_hosts_fit (P := P) (w := w) (K := K) (mg := mg) (base := base) (fun_of D_hosts_fit) B g_is_between g_bit_fits g_lot_fits) D_hosts_fit (FunD.bindsN (ps := ["link", "sender", "receiver"]) D_hosts_fit fun _ _ _ _ _ _ us hl => match us, hl with | [_, _, _], _ => rfl)
  have g_contents_fit := fn_of2 (ps := ["link", "value"]) X G (c.fact 10 (f := .glo "contents_fit") rfl) (ok_contents_fit (P := P) (w := w) (K := K) (mg := mg) (base := base) (fun_of D_contents_fit) B g_hosts_fit g_counts_fit) D_contents_fit (FunD.bindsN (ps := ["link", "value"]) D_contents_fit fun _ _ _ _ _ _ us hl => match us, hl with | [_, _], _ => rfl)
  have g_check_contents := fn_of2 (ps := ["link", "contents"]) X G (c.fact 11 (f := .glo "check_contents") rfl) (ok_check_contents (P := P) (w := w) (K := K) (mg := mg) (base := base) (fun_of D_check_contents) B g_check_link g_contents_fit) D_check_contents (FunD.bindsN (ps := ["link", "contents"]) D_check_contents fun _ _ _ _ _ _ us hl => match us, hl with | [_, _], _ => rfl)
  have g_check_fated := fn_of2 (ps := ["link", "contents"]) X G (c.fact 18 (f := .glo "check_fated") rfl) (ok_check_fated (P := P) (w := w) (K := K) (mg := mg) (base := base) (fun_of D_check_fated) B g_check_contents g_check_sound) D_check_fated (FunD.bindsN (ps := ["link", "contents"]) D_check_fated fun _ _ _ _ _ _ us hl => match us, hl with | [_, _], _ => rfl)
  have g_even_fits := fn_of2 (ps := ["contents"]) X G (c.fact 12 (f := .glo "even_fits") rfl) (ok_even_fits (P := P) (w := w) (K := K) (mg := mg) (base := base) (fun_of D_even_fits)  ) D_even_fits (FunD.bindsN (ps := ["contents"]) D_even_fits fun _ _ _ _ _ _ us hl => match us, hl with | [_], _ => rfl)
  have g_must_in := fn_of2 (ps := ["contents"]) X G (c.fact 22 (f := .glo "must_in") rfl) (ok_must_in (P := P) (w := w) (K := K) (mg := mg) (base := base) (fun_of D_must_in) B g_even_fits) D_must_in (FunD.bindsN (ps := ["contents"]) D_must_in fun _ _ _ _ _ _ us hl => match us, hl with | [_], _ => rfl)
  have g_must := fn_of2 (ps := ["link", "contents"]) X G (c.fact 23 (f := .glo "must") rfl) (ok_must (P := P) (w := w) (K := K) (mg := mg) (base := base) (fun_of D_must) B g_check_fated g_must_in) D_must (FunD.bindsN (ps := ["link", "contents"]) D_must fun _ _ _ _ _ _ us hl => match us, hl with | [_, _], _ => rfl)
  have g_old_of := fn_of2 (ps := ["contents", "bit"]) X G (c.fact 13 (f := .glo "old_of") rfl) (ok_old_of (P := P) (w := w) (K := K) (mg := mg) (base := base) (fun_of D_old_of)  ) D_old_of (FunD.bindsN (ps := ["contents", "bit"]) D_old_of fun _ _ _ _ _ _ us hl => match us, hl with | [_, _], _ => rfl)
  have g_answers_of := fn_of2 (ps := ["contents", "bit"]) X G (c.fact 14 (f := .glo "answers_of") rfl) (ok_answers_of (P := P) (w := w) (K := K) (mg := mg) (base := base) (fun_of D_answers_of)  ) D_answers_of (FunD.bindsN (ps := ["contents", "bit"]) D_answers_of fun _ _ _ _ _ _ us hl => match us, hl with | [_, _], _ => rfl)
  have g_answers_in := fn_of2 (ps := ["contents"]) X G (c.fact 15 (f := .glo "answers_in") rfl) (ok_answers_in (P := P) (w := w) (K := K) (mg := mg) (base := base) (fun_of D_answers_in)  g_answers_of) D_answers_in (FunD.bindsN (ps := ["contents"]) D_answers_in fun _ _ _ _ _ _ us hl => match us, hl with | [_], _ => rfl)
  have g_old_in := fn_of2 (ps := ["contents"]) X G (c.fact 16 (f := .glo "old_in") rfl) (ok_old_in (P := P) (w := w) (K := K) (mg := mg) (base := base) (fun_of D_old_in)  g_old_of) D_old_in (FunD.bindsN (ps := ["contents"]) D_old_in fun _ _ _ _ _ _ us hl => match us, hl with | [_], _ => rfl)
  have g_signs_in := fn_of2 (ps := ["link", "contents"]) X G (c.fact 17 (f := .glo "signs_in") rfl) (ok_signs_in (P := P) (w := w) (K := K) (mg := mg) (base := base) (fun_of D_signs_in)  g_even_fits g_answers_in g_old_in) D_signs_in (FunD.bindsN (ps := ["link", "contents"]) D_signs_in fun _ _ _ _ _ _ us hl => match us, hl with | [_, _], _ => rfl)
  have g_longest_fates := fn_of2 (ps := ["link", "contents"]) X G (c.fact 19 (f := .glo "longest_fates") rfl) (ok_longest (P := P) (w := w) (K := K) (mg := mg) (base := base) (fun_of D_longest_fates)  g_signs_in) D_longest_fates (FunD.bindsN (ps := ["link", "contents"]) D_longest_fates fun _ _ _ _ _ _ us hl => match us, hl with | [_, _], _ => rfl)
  have g_fates_in := fn_of2 (ps := ["link", "contents"]) X G (c.fact 20 (f := .glo "fates_in") rfl) (ok_fates_in (P := P) (w := w) (K := K) (mg := mg) (base := base) (fun_of D_fates_in) B mLETTERS hLet g_longest_fates) D_fates_in (FunD.bindsN (ps := ["link", "contents"]) D_fates_in fun _ _ _ _ _ _ us hl => match us, hl with | [_, _], _ => rfl)
  have g_firsts := fn_of2 (ps := ["link", "contents"]) X G (c.fact 21 (f := .glo "firsts") rfl) (ok_firsts (P := P) (w := w) (K := K) (mg := mg) (base := base) (fun_of D_firsts) B mWRONG hWrong g_check_fated g_fates_in) D_firsts (FunD.bindsN (ps := ["link", "contents"]) D_firsts fun _ _ _ _ _ _ us hl => match us, hl with | [_, _], _ => rfl)
  have g__law_hash := fn_of2 (ps := ["_law_seed", "_law_index"]) X G (c.fact 24 (f := .glo "_law_hash") rfl) (ok_hash (P := P) (w := w) (K := K) (mg := mg) (base := base) (fun_of D__law_hash) B ) D__law_hash (FunD.bindsN (ps := ["_law_seed", "_law_index"]) D__law_hash fun _ _ _ _ _ _ us hl => match us, hl with | [_, _], _ => rfl)
  have g__law_random := fn_of2 (ps := ["_law_generator_here", "_law_bound"]) X G (c.fact 25 (f := .glo "_law_random") rfl) (ok_random (P := P) (w := w) (K := K) (mg := mg) (base := base) (fun_of D__law_random) B g__law_hash) D__law_random (FunD.bindsN (ps := ["_law_generator_here", "_law_bound"]) D__law_random fun _ _ _ _ _ _ us hl => match us, hl with | [_, _], _ => rfl)
  have g__law_cell := fn_of2 (ps := ["_law_script", "_law_index"]) X G (c.fact 26 (f := .glo "_law_cell") rfl) (ok_cell (P := P) (w := w) (K := K) (mg := mg) (base := base) (fun_of D__law_cell) B ) D__law_cell (FunD.bindsN (ps := ["_law_script", "_law_index"]) D__law_cell fun _ _ _ _ _ _ us hl => match us, hl with | [_, _], _ => rfl)
  have g__law_generator := fn_of2 (ps := ["_law_script", "_law_index"]) X G (c.fact 27 (f := .glo "_law_generator") rfl) (ok_gen (P := P) (w := w) (K := K) (mg := mg) (base := base) (fun_of D__law_generator) B g__law_cell) D__law_generator (FunD.bindsN (ps := ["_law_script", "_law_index"]) D__law_generator fun _ _ _ _ _ _ us hl => match us, hl with | [_, _], _ => rfl)
  have g__law_size := fn_of2 (ps := ["_law_generator_here", "_law_least", "_law_most"]) X G (c.fact 28 (f := .glo "_law_size") rfl) (ok_size (P := P) (w := w) (K := K) (mg := mg) (base := base) (fun_of D__law_size)  g__law_random) D__law_size (FunD.bindsN (ps := ["_law_generator_here", "_law_least", "_law_most"]) D__law_size fun _ _ _ _ _ _ us hl => match us, hl with | [_, _, _], _ => rfl)
  have g__law_count := fn_of2 (ps := ["_law_generator_here", "_law_most"]) X G (c.fact 36 (f := .glo "_law_count") rfl) (ok_count (P := P) (w := w) (K := K) (mg := mg) (base := base) (fun_of D__law_count)  g__law_random) D__law_count (FunD.bindsN (ps := ["_law_generator_here", "_law_most"]) D__law_count fun _ _ _ _ _ _ us hl => match us, hl with | [_, _], _ => rfl)
  have g__law_power := fn_of2 (ps := ["_law_many"]) X G (c.fact 42 (f := .glo "_law_power") rfl) (ok_power (P := P) (w := w) (K := K) (mg := mg) (base := base) (fun_of D__law_power) B ) D__law_power (FunD.bindsN (ps := ["_law_many"]) D__law_power fun _ _ _ _ _ _ us hl => match us, hl with | [_], _ => rfl)
  have g__law_link := fn_of2 (ps := ["_law_generator_here", "_law_most", "_law_tight"]) X G (c.fact 38 (f := .glo "_law_link") rfl) (ok_link (P := P) (w := w) (K := K) (mg := mg) (base := base) (fun_of D__law_link)  g__law_size g__law_count) D__law_link (FunD.bindsN (ps := ["_law_generator_here", "_law_most", "_law_tight"]) D__law_link fun _ _ _ _ _ _ us hl => match us, hl with | [_, _, _], _ => rfl)
  have g__law_contents := fn_of2 (ps := ["_law_generator_here", "_law_link_here"]) X G (c.fact 37 (f := .glo "_law_contents") rfl) (ok_contents (P := P) (w := w) (K := K) (mg := mg) (base := base) (fun_of D__law_contents)  g__law_random g__law_count) D__law_contents (FunD.bindsN (ps := ["_law_generator_here", "_law_link_here"]) D__law_contents fun _ _ _ _ _ _ us hl => match us, hl with | [_, _], _ => rfl)
  have g__law_more := fn_of2 (ps := ["_law_counts", "_law_place", "_law_more_here"]) X G (c.fact 30 (f := .glo "_law_more") rfl) (ok_more (P := P) (w := w) (K := K) (mg := mg) (base := base) (fun_of D__law_more) B ) D__law_more (FunD.bindsN (ps := ["_law_counts", "_law_place", "_law_more_here"]) D__law_more fun _ _ _ _ _ _ us hl => match us, hl with | [_, _, _], _ => rfl)
  have g__law_step := fn_of2 (ps := ["_law_link_here", "_law_contents_there", "_law_event"]) X G (c.fact 31 (f := .glo "_law_step") rfl) (ok_step (P := P) (w := w) (K := K) (mg := mg) (base := base) (fun_of D__law_step) B g__law_more) D__law_step (FunD.bindsN (ps := ["_law_link_here", "_law_contents_there", "_law_event"]) D__law_step fun _ _ _ _ _ _ us hl => match us, hl with | [_, _, _], _ => rfl)
  have g__law_events := fn_of2 (ps := []) X G (c.fact 32 (f := .glo "_law_events") rfl) (ok_events (P := P) (w := w) (K := K) (mg := mg) (base := base) (fun_of D__law_events) B ) D__law_events (FunD.bindsN (ps := []) D__law_events fun _ _ _ _ _ _ us hl => match us, hl with | [], _ => rfl)
  have g__law_wires := fn_of2 (ps := ["_law_size_here", "_law_places"]) X G (c.fact 33 (f := .glo "_law_wires") rfl) (ok_wires (P := P) (w := w) (K := K) (mg := mg) (base := base) (fun_of D__law_wires) B ) D__law_wires (FunD.bindsN (ps := ["_law_size_here", "_law_places"]) D__law_wires fun _ _ _ _ _ _ us hl => match us, hl with | [_, _], _ => rfl)
  have g__law_lots := fn_of2 (ps := ["_law_link_here", "_law_alike"]) X G (c.fact 34 (f := .glo "_law_lots") rfl) (ok_lots (P := P) (w := w) (K := K) (mg := mg) (base := base) (fun_of D__law_lots) B ) D__law_lots (FunD.bindsN (ps := ["_law_link_here", "_law_alike"]) D__law_lots fun _ _ _ _ _ _ us hl => match us, hl with | [_, _], _ => rfl)
  have g__law_all := fn_of2 (ps := ["_law_link_here"]) X G (c.fact 35 (f := .glo "_law_all") rfl) (ok_all (P := P) (w := w) (K := K) (mg := mg) (base := base) (fun_of D__law_all) B g__law_lots g__law_wires) D__law_all (FunD.bindsN (ps := ["_law_link_here"]) D__law_all fun _ _ _ _ _ _ us hl => match us, hl with | [_], _ => rfl)
  have g__law_moves := fn_of2 (ps := ["_law_link_here", "_law_contents_there"]) X G (c.fact 39 (f := .glo "_law_moves") rfl) (ok_moves (P := P) (w := w) (K := K) (mg := mg) (base := base) (fun_of D__law_moves) B g__law_events g__law_step) D__law_moves (FunD.bindsN (ps := ["_law_link_here", "_law_contents_there"]) D__law_moves fun _ _ _ _ _ _ us hl => match us, hl with | [_, _], _ => rfl)
  have g__law_spread := fn_of2 (ps := ["_law_steps", "_law_start"]) X G (c.fact 40 (f := .glo "_law_spread") rfl) (ok_spread (P := P) (w := w) (K := K) (mg := mg) (base := base) (fun_of D__law_spread) B ) D__law_spread (FunD.bindsN (ps := ["_law_steps", "_law_start"]) D__law_spread fun _ _ _ _ _ _ us hl => match us, hl with | [_, _], _ => rfl)
  have g__law_same := fnN_of (ps := ["_law_one_told", "_law_other_told"]) X G (c.fact 29 (f := .glo "_law_same") rfl) (ok_same (P := P) (w := w) (K := K) (mg := mg) (base := base) (fun_of D__law_same) B ) D__law_same (FunD.bindsN (ps := ["_law_one_told", "_law_other_told"]) D__law_same fun _ _ _ _ _ _ us hl => match us, hl with | [_, _], _ => rfl)
  have g__law_small_right := fnN_of (ps := ["_law_generator_here"]) X G (c.fact 41 (f := .glo "_law_small_right") rfl) (ok_small (P := P) (w := w) (K := K) (mg := mg) (base := base) (fun_of D__law_small_right) B g__law_random g__law_all g__law_moves g_must g_firsts g__law_spread g__law_same) D__law_small_right (FunD.bindsN (ps := ["_law_generator_here"]) D__law_small_right fun _ _ _ _ _ _ us hl => match us, hl with | [_], _ => rfl)
  exact ok_law (P := P) (w := w) (K := K) (mg := mg) (base := base) (fun_of D_law) B g__law_random g__law_generator g__law_size g__law_power g__law_link g__law_contents g_must g__law_same g__law_small_right
theorem letters_of (t : He.SaysT fa fn ts w K) (e : exB K = true) : HasLetters K w (He.ga K "LETTERS") ∧ ∀ H, SqT K H (He.ga K "WRONG") (fateWords.map V.str) := by
  obtain ⟨e1, e2⟩ := Bool.and_eq_true_iff.mp e
  obtain ⟨es, n, kd⟩ := t.tab 0 (t := (fun K => He.ga K "LETTERS", ["l", "m", "t"])) rfl
  refine ⟨fun c hc => ?_, fun H => He.tupB_ok e2 H⟩
  have get : ∀ (x : Str) (v : Str), (x, He.Dv.str v) ∈ [(("l" : Str), He.Dv.str "lost"), ("m", .str "made"), ("t", .str "twice")] → KDct K w (He.ga K "LETTERS") x (.str v) := by
    intro x v hm
    obtain ⟨u, h1, h2⟩ := He.valsB_ok e1 hm
    exact ⟨es, n, u, kd.at_, kd.lit, h1, h2⟩
  rcases hc with rfl | rfl | rfl
  · exact get "l" "lost" (by simp)
  · exact get "m" "made" (by simp)
  · exact get "t" "twice" (by simp)
end
end Hw

set_option Elab.async false
set_option linter.all false
set_option maxRecDepth 100000
set_option maxHeartbeats 0
/-! HF: the law holds. -/
open PySem PySem.W PySem.Calls PyProof.Rows
theorem PySem.Challenge.cw_healwires_k30_whole_what_must_go_wrong_holds : PySem.Challenge.rw_healwires_k30_whole_what_must_go_wrong.Holds := by
  w_on; o_law
  refine HandSHeadRun.head_any (r := Hw.RR) (q := view Hw.RR.prog [59]) (H := Hw.hk) (ob := Hw.ob) (M := 6000) (loose := Hw.loose) (d := HandSHeadRun.topDef Hw.RR.prog 59) (kwd := [])
    Hw.ob_eq (by kernel_rfl) (fun s => by kernel_rfl) Hw.run (by kernel_rfl) (by kernel_rfl) (by kernel_rfl) (by rfl) (by first | assumption | decide +kernel) (by decide +kernel) ⟨rfl, rfl, rfl, rfl, rfl, by decide +kernel⟩ ?hw ?hc
  case hw => w_witness2
  case hc =>
    refine Hw.walk_ofG (l := PySem.Challenge.rw_healwires_k30_whole_what_must_go_wrong) (n := 63) (k := 10) (x := "_law_script") rfl (by decide) (by kernel_rfl) ⟨rfl, by decide, by decide⟩ ?F
    intro w mg fa h Y G named
    obtain ⟨K, inK, said⟩ := Y
    have hmg : mg ("law" : PySem.Str) = some (.ref fa) := by
      have e : (HandSHeadRun.topDef Hw.RR.prog 59).name = ("law" : PySem.Str) := by kernel_rfl
      rw [← e]
      exact named
    obtain ⟨l1, l2⟩ := Hw.letters_of said.t said.more
    obtain ⟨fd, binds, walk⟩ := Hw.facts (P := (PySem.Challenge.rw_healwires_k30_whole_what_must_go_wrong).prog) (w := w) inK G hmg said.t.d l1 l2
    exact ⟨K, fd, Hw.spLaw K, inK, binds, fun H a ns hl _ seq => ⟨a, ns, rfl, seq, fun _ => rfl⟩, walk⟩
