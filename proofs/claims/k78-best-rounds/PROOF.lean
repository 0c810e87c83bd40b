import PyProof.Rows.All
import Wide.All
import OpenK.AllK
import Wide.FinOn
import HandS.ForMost
import HandS.Walk
import HandS.Zip
import HandS.Deep
import HandS.Conv
import HandS.SetFor
import HandS.Strs
import HandS.IsInst
import HandS.TupAny
import HandS.Style
import HandS.Evl
import KE.DatumOrd
import KE.GoesEnum
import KE.GoesZip
import KE.KTupSum
import PySem.Challenge.RW_nearhouses_k78_whole_best_rounds
set_option Elab.async false
set_option linter.all false
set_option maxRecDepth 100000
set_option maxHeartbeats 3900000
/-! ### part A: what an expression gives, told as data -/
namespace K7
open PySem L2

theorem sml {n : Nat} (h : n ≤ 10000000) : n ≤ sizeLine := Nat.le_trans h (by decide)
theorem smlt {n : Nat} (h : n < 10000000) : n < sizeLine := Nat.lt_of_lt_of_le h (by decide)
theorem same_new {H : Hp} {p : Addr} {o : HO} (h : H p = none) : Same H (upd H p o) := fun b u q => by rw [upd_ne (ne_of_none q h)]; exact q
theorem same_mut {H H' : Hp} {p : Addr} {o : HO} (e : Same H H') (h : H p = none) : Same H (upd H' p o) := fun b u q => by
  rw [upd_ne (ne_of_none q h)]; exact e b u q
theorem same_tup {K : PySem.W.Frag} {H H' : Hp} {a : Addr} {xs : List V} (e : Same H H') (h : SqT K H a xs) : SqT K H' a xs := Evl.ex_t e h

section
variable {K : PySem.W.Frag} {H H' : Hp}
mutual
theorem dp_same (e : Same H H') : ∀ (d : PyData) (v : V), Dp K H v d → Dp K H' v d
  | .none, _, h => by cases h; exact .non
  | .bool b, _, h => by cases h; exact .bl b
  | .int i, _, h => by cases h; exact .int i
  | .str x, _, h => by cases h; exact .str x
  | .list ds, _, h => by
    cases h with
    | lst hs ha => exact .lst (e.seq hs) (dps_same e ds _ ha)
  | .tuple ds, _, h => by
    cases h with
    | tup hs ha => exact .tup (same_tup e hs) (dps_same e ds _ ha)
  | .dict _, _, h => by cases h
theorem dps_same (e : Same H H') : ∀ (ds : List PyData) (vs : List V), DpAll K H vs ds → DpAll K H' vs ds
  | [], _, h => by cases h; exact .nil
  | d :: ds, _, h => by
    cases h with
    | cons h1 h2 => exact .cons (dp_same e d _ h1) (dps_same e ds _ h2)
end
end

/-! tuples, None, numbers, truth values alone -/
mutual
def TD : PyData → Bool
  | .tuple ds => TDs ds
  | .list _ => false
  | .dict _ => false
  | _ => true
def TDs : List PyData → Bool
  | [] => true
  | d :: ds => TD d && TDs ds
end
theorem TDs_of : ∀ {ds : List PyData}, (∀ d ∈ ds, TD d = true) → TDs ds = true
  | [], _ => by simp [TDs]
  | d :: ds, h => by
    simp only [TDs, Bool.and_eq_true]
    exact ⟨h d List.mem_cons_self, TDs_of fun x hx => h x (List.mem_cons_of_mem _ hx)⟩
/-- what tuples lean on -/
def TKeep (H H' : Hp) : Prop := (∀ b xs, H b = some (.tup xs) → H' b = some (.tup xs)) ∧ ∀ b o u, H b = some (.frz o u) → H' b = some (.frz o u)
theorem TKeep.of {H H' : Hp} (e : Same H H') : TKeep H H' := ⟨fun b xs q => e b _ q, fun b o u q => e b _ q⟩
theorem TKeep.trans {H H1 H2 : Hp} (a : TKeep H H1) (b : TKeep H1 H2) : TKeep H H2 := ⟨fun c xs q => b.1 c xs (a.1 c xs q), fun c o u q => b.2 c o u (a.2 c o u q)⟩
theorem TKeep.lst {H : Hp} {l : Addr} {xs : List V} {o : HO} (h : H l = some (.lst xs)) : TKeep H (upd H l o) :=
  ⟨fun b ys q => by rw [upd_ne (ne_of q h (by intro z; cases z))]; exact q, fun b o u q => by rw [upd_ne (ne_of q h (by intro z; cases z))]; exact q⟩
section
variable {K : PySem.W.Frag} {H H' : Hp}
theorem TKeep.sqt {a : Addr} {xs : List V} (e : TKeep H H') (h : SqT K H a xs) : SqT K H' a xs := by
  rcases h with (h | ⟨o, h⟩) | (h : _)
  · exact .inl (.inl (e.1 _ _ h))
  · exact .inl (.inr ⟨o, e.2 _ _ _ h⟩)
  · exact .inr h
mutual
theorem dp_tk (e : TKeep H H') : ∀ (d : PyData) (v : V), TD d = true → Dp K H v d → Dp K H' v d
  | .none, _, _, h => by cases h; exact .non
  | .bool b, _, _, h => by cases h; exact .bl b
  | .int i, _, _, h => by cases h; exact .int i
  | .str x, _, _, h => by cases h; exact .str x
  | .list ds, _, t, h => by simp [TD] at t
  | .tuple ds, _, t, h => by
    cases h with
    | tup hs ha => exact .tup (e.sqt hs) (dps_tk e ds _ (by simpa [TD] using t) ha)
  | .dict _, _, _, h => by cases h
theorem dps_tk (e : TKeep H H') : ∀ (ds : List PyData) (vs : List V), TDs ds = true → DpAll K H vs ds → DpAll K H' vs ds
  | [], _, _, h => by cases h; exact .nil
  | d :: ds, _, t, h => by
    simp only [TDs, Bool.and_eq_true] at t
    cases h with
    | cons h1 h2 => exact .cons (dp_tk e d _ t.1 h1) (dps_tk e ds _ t.2 h2)
end
theorem dps_len : ∀ {vs : List V} {ds : List PyData}, DpAll K H vs ds → vs.length = ds.length
  | _, _, .nil => rfl
  | _, _, .cons _ h => congrArg (· + 1) (dps_len h)
theorem dps_get : ∀ {vs : List V} {ds : List PyData} {i : Nat} {d : PyData}, DpAll K H vs ds → ds[i]? = some d → ∃ v, vs[i]? = some v ∧ Dp K H v d
  | _, _, _, _, .nil, no => by simp at no
  | _, _, 0, _, .cons h _, e => by simp at e; subst e; exact ⟨_, rfl, h⟩
  | _, _, i + 1, d, .cons _ h, e => by
    obtain ⟨v, h1, h2⟩ := dps_get (i := i) (d := d) h (by simpa using e)
    exact ⟨v, by simpa using h1, h2⟩
theorem dps_get' : ∀ {vs : List V} {ds : List PyData} {i : Nat} {v : V}, DpAll K H vs ds → vs[i]? = some v → ∃ d, ds[i]? = some d ∧ Dp K H v d
  | _, _, _, _, .nil, no => by simp at no
  | _, _, 0, _, .cons h _, e => by simp at e; subst e; exact ⟨_, rfl, h⟩
  | _, _, i + 1, d, .cons _ h, e => by
    obtain ⟨v, h1, h2⟩ := dps_get' (i := i) (v := d) h (by simpa using e)
    exact ⟨v, by simpa using h1, h2⟩
theorem dps_app : ∀ {vs ws : List V} {ds es : List PyData}, DpAll K H vs ds → DpAll K H ws es → DpAll K H (vs ++ ws) (ds ++ es)
  | _, _, _, _, .nil, h => h
  | _, _, _, _, .cons h1 h2, h => .cons h1 (dps_app h2 h)
theorem dps_take : ∀ {vs : List V} {ds : List PyData} (n : Nat), DpAll K H vs ds → DpAll K H (vs.take n) (ds.take n)
  | _, _, 0, _ => by simp; exact .nil
  | _, _, n + 1, .nil => .nil
  | _, _, n + 1, .cons h1 h2 => .cons h1 (dps_take n h2)
theorem dps_drop : ∀ {vs : List V} {ds : List PyData} (n : Nat), DpAll K H vs ds → DpAll K H (vs.drop n) (ds.drop n)
  | _, _, 0, h => h
  | _, _, n + 1, .nil => .nil
  | _, _, n + 1, .cons h1 h2 => dps_drop n h2
theorem dp_int {v : V} {i : Int} (h : Dp K H v (.int i)) : v = .int i := by cases h; rfl
theorem dp_bl {v : V} {b : Bool} (h : Dp K H v (.bool b)) : v = .bl b := by cases h; rfl
theorem dp_non {v : V} (h : Dp K H v .none) : v = .non := by cases h; rfl
theorem dps_ints : ∀ {ns : List Int} {vs : List V}, DpAll K H vs (ns.map .int) → vs = ns.map V.int
  | [], _, h => by cases h; rfl
  | n :: ns, _, h => by
    cases h with
    | cons h1 h2 => rw [dp_int h1, dps_ints h2]; rfl
theorem dps_of_ints : ∀ (ns : List Int), DpAll K H (ns.map V.int) (ns.map .int)
  | [] => .nil
  | n :: ns => .cons (.int n) (dps_of_ints ns)
theorem dp_tup {v : V} {ds : List PyData} (h : Dp K H v (.tuple ds)) : ∃ a xs, v = .ref a ∧ SqT K H a xs ∧ DpAll K H xs ds := by
  cases h with
  | tup a b => exact ⟨_, _, rfl, a, b⟩
theorem dp_lst {v : V} {ds : List PyData} (h : Dp K H v (.list ds)) : ∃ a xs, v = .ref a ∧ SqL K H a xs ∧ DpAll K H xs ds := by
  cases h with
  | lst a b => exact ⟨_, _, rfl, a, b⟩
end

/-! ### what gives what -/
def EvP (te : TE) (σ : St) (H : Hp) (P : V → Hp → Prop) : Prop := ∀ H1, Same H H1 → ∀ Q : VK, (∀ v H2, Same H1 H2 → P v H2 → Q v H2) → te σ H1 Q
abbrev EvD (K : PySem.W.Frag) (te : TE) (σ : St) (H : Hp) (d : PyData) : Prop := EvP te σ H fun v H' => Dp K H' v d
/-- an own list, whole -/
def ML (K : PySem.W.Frag) (H : Hp) (v : V) (ds : List PyData) : Prop := ∃ p vs, v = .ref p ∧ H p = some (.lst vs) ∧ DpAll K H vs ds
abbrev EvM (K : PySem.W.Frag) (te : TE) (σ : St) (H : Hp) (ds : List PyData) : Prop := EvP te σ H fun v H' => ML K H' v ds
def EvA (K : PySem.W.Frag) (ta : TA) (σ : St) (H : Hp) (ds : List PyData) : Prop := ∀ H1, Same H H1 → ∀ Q : List V → Hp → Prop, (∀ vs H2, Same H1 H2 → DpAll K H2 vs ds → Q vs H2) → ta σ H1 Q
def EvB (tt : TT) (σ : St) (H : Hp) (b : Bool) : Prop := ∀ H1, Same H H1 → ∀ Q : Bool → Hp → Prop, (∀ H2, Same H1 H2 → Q b H2) → tt σ H1 Q
def ROP (K : PySem.W.Frag) (r : R2) (d1 d2 : PyData) (P : V → Hp → Prop) : Prop := ∀ H1 x y, Dp K H1 x d1 → Dp K H1 y d2 → ∀ Q : VK, (∀ v H2, Same H1 H2 → P v H2 → Q v H2) → r x y H1 Q
abbrev ROD (K : PySem.W.Frag) (r : R2) (d1 d2 d : PyData) : Prop := ROP K r d1 d2 fun v H' => Dp K H' v d
def RCP (K : PySem.W.Frag) (r : List V → Hp → VK → Prop) (ds : List PyData) (P : V → Hp → Prop) : Prop := ∀ H1 vs, DpAll K H1 vs ds → ∀ Q : VK, (∀ v H2, Same H1 H2 → P v H2 → Q v H2) → r vs H1 Q
abbrev RCD (K : PySem.W.Frag) (r : List V → Hp → VK → Prop) (ds : List PyData) (d : PyData) : Prop := RCP K r ds fun v H' => Dp K H' v d
theorem ML.same {K : PySem.W.Frag} {H H' : Hp} {v : V} {ds : List PyData} (e : Same H H') (h : ML K H v ds) : ML K H' v ds := by
  obtain ⟨p, vs, rfl, h1, h2⟩ := h
  exact ⟨p, vs, rfl, e _ _ h1, dps_same e _ _ h2⟩
theorem ML.dp {K : PySem.W.Frag} {H : Hp} {v : V} {ds : List PyData} (h : ML K H v ds) : Dp K H v (.list ds) := by
  obtain ⟨p, vs, rfl, h1, h2⟩ := h
  exact .lst (SqL.of h1) h2
section
variable {K : PySem.W.Frag} {σ : St} {H H' : Hp} {ta tb tc te : TE} {t u : TT} {d d1 d2 d3 : PyData} {ds es : List PyData} {P P' : V → Hp → Prop}
theorem EvP.mono (e : Same H H') (h : EvP te σ H P) : EvP te σ H' P := fun H1 a Q q => h H1 (e.trans a) Q q
theorem EvP.imp (h : EvP te σ H P) (f : ∀ v H', Same H H' → P v H' → P' v H') : EvP te σ H P' := fun H1 e Q q => h H1 e Q fun v H2 e2 p => q v H2 e2 (f v H2 (e.trans e2) p)
theorem EvM.toD (h : EvM K te σ H ds) : EvD K te σ H (.list ds) := EvP.imp h fun _ _ _ m => m.dp
theorem EvD.is (h : EvD K te σ H d) (e : d = d1) : EvD K te σ H d1 := e ▸ h
theorem EvM.is (h : EvM K te σ H ds) (e : ds = es) : EvM K te σ H es := e ▸ h
theorem EvB.is {b c : Bool} (h : EvB t σ H b) (e : b = c) : EvB t σ H c := e ▸ h
theorem ed_var {i : Nat} {v : V} (h : σ[i]? = some (some v)) (hd : Dp K H v d) : EvD K (tVar i) σ H d := fun H1 e _ q => ⟨v, h, q v H1 (Same.refl _) (dp_same e _ _ hd)⟩
theorem em_var {i : Nat} {v : V} (h : σ[i]? = some (some v)) (hd : ML K H v ds) : EvM K (tVar i) σ H ds := fun H1 e _ q => ⟨v, h, q v H1 (Same.refl _) (hd.same e)⟩
theorem ed_vari {i : Nat} {n : Int} (h : σ[i]? = some (some (.int n))) : EvD K (tVar i) σ H (.int n) := ed_var h (.int n)
theorem ed_int {n : Int} : EvD K (tC (.int n)) σ H (.int n) := fun H1 _ _ q => q _ H1 (Same.refl _) (.int n)
theorem ed_bl {b : Bool} : EvD K (tC (.bl b)) σ H (.bool b) := fun H1 _ _ q => q _ H1 (Same.refl _) (.bl b)
theorem ed_non : EvD K (tC .non) σ H .none := fun H1 _ _ q => q _ H1 (Same.refl _) .non
theorem ed_op {r : R2} (ha : EvD K ta σ H d1) (hb : EvD K tb σ H d2) (hr : ROP K r d1 d2 P) : EvP (tOp r ta tb) σ H P := fun H1 e Q q =>
  ha H1 e _ fun x H2 e2 p2 => hb H2 (e.trans e2) _ fun y H3 e3 p3 => hr H3 x y (dp_same e3 _ _ p2) p3 Q fun v H4 e4 p4 => q v H4 ((e2.trans e3).trans e4) p4
theorem ro_I0 {g : Int → Int → V} {i j : Int} {d : PyData} (hd : ∀ H, Dp K H (g i j) d) : ROD K (rI0 g) (.int i) (.int j) d := fun H1 x y hx hy Q q =>
  ⟨i, j, dp_int hx, dp_int hy, q _ H1 (Same.refl _) (hd H1)⟩
theorem ro_I {C : Int → Int → Prop} {g : Int → Int → V} {i j : Int} {d : PyData} (hc : C i j) (hd : ∀ H, Dp K H (g i j) d) : ROD K (rI C g) (.int i) (.int j) d := fun H1 x y hx hy Q q =>
  ⟨i, j, dp_int hx, dp_int hy, hc, q _ H1 (Same.refl _) (hd H1)⟩
theorem ro_add {i j : Int} : ROD K (rI0 fun i j => .int (i + j)) (.int i) (.int j) (.int (i + j)) := ro_I0 fun _ => .int _
theorem ro_sub {i j : Int} : ROD K (rI0 fun i j => .int (i - j)) (.int i) (.int j) (.int (i - j)) := ro_I0 fun _ => .int _
theorem ro_mul {i j : Int} (hc : CMul i j) : ROD K (rI CMul fun i j => .int (i * j)) (.int i) (.int j) (.int (i * j)) := ro_I hc fun _ => .int _
theorem ro_cmp {f : Int → Int → Bool} {i j : Int} : ROD K (rI0 fun i j => .bl (f i j)) (.int i) (.int j) (.bool (f i j)) := ro_I0 fun _ => .bl _
theorem ro_eq {i j : Int} : ROD K rEq (.int i) (.int j) (.bool (decide (i = j))) := fun H1 x y hx hy Q q => by
  rw [dp_int hx, dp_int hy]
  refine ⟨rfl, ?_⟩
  refine q _ H1 (Same.refl _) ?_
  have e : decide (V.int i = V.int j) = decide (i = j) := by
    by_cases h : i = j
    · rw [decide_eq_true h, decide_eq_true (by rw [h])]
    · rw [decide_eq_false h, decide_eq_false (by intro z; cases z; exact h rfl)]
  rw [e]
  exact .bl _
theorem ro_ne {i j : Int} : ROD K rNe (.int i) (.int j) (.bool (!decide (i = j))) := fun H1 x y hx hy Q q => by
  rw [dp_int hx, dp_int hy]
  refine ⟨rfl, ?_⟩
  refine q _ H1 (Same.refl _) ?_
  have e : decide (V.int i = V.int j) = decide (i = j) := by
    by_cases h : i = j
    · rw [decide_eq_true h, decide_eq_true (by rw [h])]
    · rw [decide_eq_false h, decide_eq_false (by intro z; cases z; exact h rfl)]
  rw [e]
  exact .bl _
theorem ro_isN {b : Bool} (hb : ∀ (H : Hp) (x : V), Dp K H x d → decide (x = .non) = b) : ROD K (fun x y H Q => y = .non ∧ Q (.bl (decide (x = .non))) H) d .none (.bool b) := fun H1 x y hx hy Q q => by
  refine ⟨dp_non hy, ?_⟩
  rw [hb H1 x hx]
  exact q _ H1 (Same.refl _) (.bl _)
theorem isN_int {i : Int} (H : Hp) (x : V) (h : Dp K H x (.int i)) : decide (x = .non) = false := by rw [dp_int h]; rfl
theorem isN_non (H : Hp) (x : V) (h : Dp K H x .none) : decide (x = .non) = true := by rw [dp_non h]; rfl
theorem isN_tup {ds : List PyData} (H : Hp) (x : V) (h : Dp K H x (.tuple ds)) : decide (x = .non) = false := by
  obtain ⟨a, xs, rfl, _⟩ := dp_tup h
  rfl
theorem atI_dps {vs : List V} {i : Int} (h : DpAll K H vs ds) (ha : atI ds i = some d) : ∃ v, atI vs i = some v ∧ Dp K H v d := by
  unfold atI at ha ⊢
  rw [dps_len h]
  cases e : ixN ds.length i with
  | none => rw [e] at ha; cases ha
  | some j =>
    rw [e] at ha
    exact dps_get h ha
theorem ro_ixT {i : Int} (ha : atI ds i = some d) : ROD K (rIxT K) (.tuple ds) (.int i) d := fun H1 x y hx hy Q q => by
  obtain ⟨a, xs, rfl, hs, hall⟩ := dp_tup hx
  obtain ⟨v, h1, h2⟩ := atI_dps hall ha
  exact ⟨a, xs, i, v, rfl, dp_int hy, hs, h1, q v H1 (Same.refl _) h2⟩
theorem ro_ixL {i : Int} (ha : atI ds i = some d) : ROD K (rIxL K) (.list ds) (.int i) d := fun H1 x y hx hy Q q => by
  obtain ⟨a, xs, rfl, hs, hall⟩ := dp_lst hx
  obtain ⟨v, h1, h2⟩ := atI_dps hall ha
  exact ⟨a, xs, i, v, rfl, dp_int hy, hs, h1, q v H1 (Same.refl _) h2⟩
theorem ro_eqD {b : Bool} (s1 : SeqAt.shaped d1 = true) (s2 : SeqAt.shaped d2 = true) (e : PyData.eqv d1 d2 = b) : ROD K (rEqD K) d1 d2 (.bool b) := fun H1 x y hx hy Q q =>
  ⟨d1, d2, hx, hy, s1, s2, by rw [e]; exact q _ H1 (Same.refl _) (.bl _)⟩
theorem ro_neD {b : Bool} (s1 : SeqAt.shaped d1 = true) (s2 : SeqAt.shaped d2 = true) (e : (!PyData.eqv d1 d2) = b) : ROD K (rNeD K) d1 d2 (.bool b) := fun H1 x y hx hy Q q =>
  ⟨d1, d2, hx, hy, s1, s2, by rw [e]; exact q _ H1 (Same.refl _) (.bl _)⟩
theorem ro_inD {b : Bool} (s1 : SeqAt.shaped d = true) (s2 : SeqAt.shaped (.list ds) = true) (e : (ds.any fun z => PyData.eqv z d) = b) : ROD K (rInD K) d (.list ds) (.bool b) := fun H1 x y hx hy Q q =>
  ⟨d, ds, hx, hy, s1, s2, by rw [e]; exact q _ H1 (Same.refl _) (.bl _)⟩
theorem ro_notInD {b : Bool} (s1 : SeqAt.shaped d = true) (s2 : SeqAt.shaped (.list ds) = true) (e : (!ds.any fun z => PyData.eqv z d) = b) : ROD K (rNotInD K) d (.list ds) (.bool b) := fun H1 x y hx hy Q q =>
  ⟨d, ds, hx, hy, s1, s2, by rw [e]; exact q _ H1 (Same.refl _) (.bl _)⟩
/-- x in t, x in xs: ints -/
theorem flat_ints : ∀ ns : List Int, (ns.map V.int).all flatV = true
  | [] => rfl
  | n :: ns => by rw [List.map_cons, List.all_cons, flat_ints ns]; rfl
theorem ro_inT {i : Int} {ns : List Int} {b : Bool} (e : inV (.int i) (ns.map V.int) = b) : ROD K (rIn K false) (.int i) (.tuple (ns.map .int)) (.bool b) := fun H1 x y hx hy Q q => by
  obtain ⟨a, xs, rfl, hs, hall⟩ := dp_tup hy
  rw [dps_ints hall] at hs
  rw [dp_int hx]
  refine ⟨a, _, rfl, .inr hs, rfl, flat_ints ns, ?_⟩
  rw [e]
  exact q _ H1 (Same.refl _) (.bl _)
theorem ro_inLN {ns : List Int} {b : Bool} (e : inV .non (ns.map V.int) = b) : ROD K (rIn K false) .none (.list (ns.map .int)) (.bool b) := fun H1 x y hx hy Q q => by
  obtain ⟨a, xs, rfl, hs, hall⟩ := dp_lst hy
  rw [dps_ints hall] at hs
  rw [dp_non hx]
  refine ⟨a, _, rfl, .inl hs, rfl, flat_ints ns, ?_⟩
  rw [e]
  exact q _ H1 (Same.refl _) (.bl _)
theorem ro_ltT {ns ms : List Int} : ROD K (rLtT K) (.tuple (ns.map .int)) (.tuple (ms.map .int)) (.bool (HT.lexLt ns ms)) := fun H1 x y hx hy Q q => by
  obtain ⟨a, xs, rfl, hs, hall⟩ := dp_tup hx
  obtain ⟨b, ys, rfl, hs2, hall2⟩ := dp_tup hy
  rw [dps_ints hall] at hs
  rw [dps_ints hall2] at hs2
  exact ⟨a, b, ns, ms, rfl, rfl, hs, hs2, q _ H1 (Same.refl _) (.bl _)⟩
theorem ro_catT (hl : ds.length + es.length ≤ 10000000) : ROD K (rCatA K) (.tuple ds) (.tuple es) (.tuple (ds ++ es)) := fun H1 x y hx hy Q q => by
  obtain ⟨a, xs, rfl, hs, hall⟩ := dp_tup hx
  obtain ⟨b, ys, rfl, hs2, hall2⟩ := dp_tup hy
  have l1 := dps_len hall
  have l2 := dps_len hall2
  refine ⟨a, b, xs, ys, rfl, rfl, hs, hs2, sml (by omega), fun z => ?_, fun _ z => ?_, fun _ _ p hp => ?_⟩
  · subst z
    cases hall
    exact q _ H1 (Same.refl _) (.tup hs2 hall2)
  · subst z
    cases hall2
    rw [List.append_nil] at q
    exact q _ H1 (Same.refl _) (.tup hs hall)
  · exact q _ _ (same_new hp) (.tup (SqT.of upd_same) (dps_same (same_new hp) _ _ (dps_app hall hall2)))
/-- xs + ys of own lists -/
theorem em_cat (ha : EvM K ta σ H ds) (hb : EvM K tb σ H es) (hl : ds.length + es.length ≤ 10000000) : EvM K (tOp rCat ta tb) σ H (ds ++ es) := fun H1 e Q q =>
  ha H1 e _ fun x H2 e2 p2 => hb H2 (e.trans e2) _ fun y H3 e3 p3 => by
    obtain ⟨a, xs, rfl, h1, h2⟩ := p2
    obtain ⟨b, ys, rfl, h3, h4⟩ := p3
    have l1 := dps_len h2
    have l2 := dps_len h4
    refine ⟨a, b, xs, ys, rfl, rfl, e3 _ _ h1, h3, sml (by omega), fun p hp => ?_⟩
    exact q _ _ ((e2.trans e3).trans (same_new hp)) ⟨p, _, rfl, upd_same, dps_same (same_new hp) _ _ (dps_app (dps_same e3 _ _ h2) h4)⟩
theorem ed_chain {f g : Int → Int → Bool} {i j k : Int} (ha : EvD K ta σ H (.int i)) (hb : EvD K tb σ H (.int j)) (hc : EvD K tc σ H (.int k)) :
    EvD K (tChain (rI0 fun i j => .bl (f i j)) (rI0 fun i j => .bl (g i j)) ta tb tc) σ H (.bool (f i j && g j k)) := fun H1 e Q q =>
  ha H1 e _ fun x H2 e2 p2 => hb H2 (e.trans e2) _ fun y H3 e3 p3 => by
    refine ⟨i, j, dp_int p2, dp_int p3, f i j, rfl, ?_⟩
    cases hf : f i j with
    | true =>
      refine iteT (hc H3 ((e.trans e2).trans e3) _ fun z H4 e4 p4 => ⟨j, k, dp_int p3, dp_int p4, ?_⟩)
      exact q _ H4 ((e2.trans e3).trans e4) (by show Dp K H4 (V.bl (g j k)) (.bool (f i j && g j k)); rw [hf, Bool.true_and]; exact .bl _)
    | false => exact iteF (q _ H3 (e2.trans e3) (by show Dp K H3 (V.bl false) (.bool (f i j && g j k)); rw [hf, Bool.false_and]; exact .bl _))
/-! tests -/
theorem eb_test {b : Bool} (h : EvD K te σ H (.bool b)) : EvB (tTest te) σ H b := fun H1 e _ q => h H1 e _ fun v H2 e2 p => ⟨b, dp_bl p, q H2 e2⟩
theorem eb_B {b : Bool} (h : EvD K te σ H (.bool b)) : EvB (tB te) σ H b := fun H1 e _ q => h H1 e _ fun v H2 e2 p => ⟨b, dp_bl p, q H2 e2⟩
theorem eb_and {a b : Bool} (h1 : EvB t σ H a) (h2 : a = true → EvB u σ H b) : EvB (tAnd t u) σ H (a && b) := fun H1 e Q q => h1 H1 e _ fun H2 e2 => by
  cases a with
  | true => exact iteT (h2 rfl H2 (e.trans e2) Q fun H3 e3 => q H3 (e2.trans e3))
  | false => exact iteF (q H2 e2)
theorem eb_or {a b : Bool} (h1 : EvB t σ H a) (h2 : a = false → EvB u σ H b) : EvB (tOr t u) σ H (a || b) := fun H1 e Q q => h1 H1 e _ fun H2 e2 => by
  cases a with
  | true => exact iteT (q H2 e2)
  | false => exact iteF (h2 rfl H2 (e.trans e2) Q fun H3 e3 => q H3 (e2.trans e3))
theorem eb_not {a : Bool} (h1 : EvB t σ H a) : EvB (tNot t) σ H (!a) := fun H1 e _ q => h1 H1 e _ fun H2 e2 => q H2 e2
theorem eb_yes : EvB tYes σ H true := fun H1 _ _ q => q H1 (Same.refl _)
theorem eb_truI {n : Int} (h : EvD K te σ H (.int n)) : EvB (fun σ H Q => te σ H fun x H' => ∃ k, TruV K x H' k ∧ Q k H') σ H (n != 0) := fun H1 e Q q =>
  h H1 e _ fun v H2 e2 p => by
    rw [dp_int p]
    exact ⟨_, rfl, q H2 e2⟩
theorem ed_andV {a b : Bool} (h1 : EvD K ta σ H (.bool a)) (h2 : a = true → EvD K tb σ H (.bool b)) : EvD K (tAndV ta tb) σ H (.bool (a && b)) := fun H1 e Q q => h1 H1 e _ fun v H2 e2 p => ⟨a, dp_bl p, by
  cases a with
  | true => exact iteT (h2 rfl H2 (e.trans e2) Q fun w H3 e3 p3 => q w H3 (e2.trans e3) p3)
  | false => exact iteF (q _ H2 e2 (.bl false))⟩
theorem ed_orV {a b : Bool} (h1 : EvD K ta σ H (.bool a)) (h2 : a = false → EvD K tb σ H (.bool b)) : EvD K (tOrV ta tb) σ H (.bool (a || b)) := fun H1 e Q q => h1 H1 e _ fun v H2 e2 p => ⟨a, dp_bl p, by
  cases a with
  | true => exact iteT (q _ H2 e2 (.bl true))
  | false => exact iteF (h2 rfl H2 (e.trans e2) Q fun w H3 e3 p3 => q w H3 (e2.trans e3) p3)⟩
theorem ed_notV {a : Bool} (h1 : EvD K ta σ H (.bool a)) : EvD K (tNotV ta) σ H (.bool (!a)) := fun H1 e _ q => h1 H1 e _ fun v H2 e2 p => ⟨a, dp_bl p, q _ H2 e2 (.bl _)⟩
theorem ep_if {b : Bool} (h : EvB t σ H b) (h1 : b = true → EvP ta σ H P) (h2 : b = false → EvP tb σ H P) : EvP (tIf t ta tb) σ H P := fun H1 e Q q => h H1 e _ fun H2 e2 => by
  cases b with
  | true => exact iteT (h1 rfl H2 (e.trans e2) Q fun v H3 e3 p => q v H3 (e2.trans e3) p)
  | false => exact iteF (h2 rfl H2 (e.trans e2) Q fun v H3 e3 p => q v H3 (e2.trans e3) p)
theorem ea_nil : EvA K tNil σ H [] := fun H1 _ _ q => q [] H1 (Same.refl _) .nil
theorem ea_cons {tr : TA} (h : EvD K ta σ H d) (hr : EvA K tr σ H ds) : EvA K (tCons ta tr) σ H (d :: ds) := fun H1 e _ q =>
  h H1 e _ fun v H2 e2 p => hr H2 (e.trans e2) _ fun vs H3 e3 ps => q _ H3 (e2.trans e3) (.cons (dp_same e3 _ _ p) ps)
theorem ed_tup {ta : TA} (h : EvA K ta σ H ds) (hl : ds.length ≤ 10000000) : EvD K (tTup ta) σ H (.tuple ds) := fun H1 e _ q =>
  h H1 e _ fun vs H2 e2 ps => ⟨sml (by rw [dps_len ps]; exact hl), fun p hp => q _ _ (e2.trans (same_new hp)) (.tup (SqT.of upd_same) (dps_same (same_new hp) _ _ ps))⟩
theorem em_lst {ta : TA} (h : EvA K ta σ H ds) (hl : ds.length ≤ 10000000) : EvM K (tLst ta) σ H ds := fun H1 e _ q =>
  h H1 e _ fun vs H2 e2 ps => ⟨sml (by rw [dps_len ps]; exact hl), fun p hp => q _ _ (e2.trans (same_new hp)) ⟨p, vs, rfl, upd_same, dps_same (same_new hp) _ _ ps⟩⟩
theorem ep_cb {r : List V → Hp → VK → Prop} {ta : TA} (h : EvA K ta σ H ds) (hr : RCP K r ds P) : EvP (tCB r ta) σ H P := fun H1 e Q q =>
  h H1 e _ fun vs H2 e2 ps => hr H2 vs ps Q fun v H3 e3 p => q v H3 (e2.trans e3) p
/-- a call of an own def that takes data -/
def SpP (sp : Sp) (K : PySem.W.Frag) (ds : List PyData) (P : V → Hp → Prop) : Prop := ∀ H1 vs, DpAll K H1 vs ds → ∀ (Q : VK) (E : XK), (∀ v H2, Same H1 H2 → P v H2 → Q v H2) → sp vs H1 Q E
theorem ep_call {sp : Sp} {E : XK} {ta : TA} (h : EvA K ta σ H ds) (hs : SpP sp K ds P) : EvP (tCall sp [] E ta) σ H P := fun H1 e Q q =>
  h H1 e _ fun vs H2 e2 ps => by
    rw [List.append_nil]
    exact hs H2 vs ps Q E fun v H3 e3 p => q v H3 (e2.trans e3) p
/-! built-in calls -/
theorem rc_lenT (hl : ds.length = n) : RCD K (fun xs H Q => ∃ p ys, xs = [.ref p] ∧ (SqL K H p ys ∨ SqT K H p ys) ∧ Q (.int ys.length) H) [.tuple ds] (.int (n : Nat)) := fun H1 vs hv Q q => by
  cases hv with
  | cons h1 h2 =>
    cases h2
    obtain ⟨a, xs, rfl, hs, hall⟩ := dp_tup h1
    refine ⟨a, xs, rfl, .inr hs, ?_⟩
    rw [dps_len hall, hl]
    exact q _ H1 (Same.refl _) (.int _)
theorem rc_lenL (hl : ds.length = n) : RCD K (fun xs H Q => ∃ p ys, xs = [.ref p] ∧ (SqL K H p ys ∨ SqT K H p ys) ∧ Q (.int ys.length) H) [.list ds] (.int (n : Nat)) := fun H1 vs hv Q q => by
  cases hv with
  | cons h1 h2 =>
    cases h2
    obtain ⟨a, xs, rfl, hs, hall⟩ := dp_lst h1
    refine ⟨a, xs, rfl, .inl hs, ?_⟩
    rw [dps_len hall, hl]
    exact q _ H1 (Same.refl _) (.int _)
theorem rc_sum {ns : List Int} : RCD K (rSum K) [.list (ns.map .int)] (.int ns.sum) := fun H1 vs hv Q q => by
  cases hv with
  | cons h1 h2 =>
    cases h2
    obtain ⟨a, xs, rfl, hs, hall⟩ := dp_lst h1
    rw [dps_ints hall] at hs
    exact ⟨a, ns, rfl, hs, q _ H1 (Same.refl _) (.int _)⟩
theorem rc_min {ns : List Int} {m : Int} (h0 : 0 < ns.length) (hm : ∀ k, k ∈ ns → (∀ y, y ∈ ns → k ≤ y) → k = m) : RCD K (rMin K) [.list (ns.map .int)] (.int m) := fun H1 vs hv Q q => by
  cases hv with
  | cons h1 h2 =>
    cases h2
    obtain ⟨a, xs, rfl, hs, hall⟩ := dp_lst h1
    rw [dps_ints hall] at hs
    refine ⟨a, ns, rfl, hs, h0, fun k hk hy => ?_⟩
    rw [hm k hk hy]
    exact q _ H1 (Same.refl _) (.int _)
theorem rc_min2 {i j : Int} : RCD K (fun xs H Q => ∃ i j, xs = [.int i, .int j] ∧ Q (.int (if j < i then j else i)) H) [.int i, .int j] (.int (min i j)) := fun H1 vs hv Q q => by
  cases hv with
  | cons h1 h2 =>
    cases h2 with
    | cons h2 h3 =>
      cases h3
      rw [dp_int h1, dp_int h2]
      refine ⟨i, j, rfl, ?_⟩
      have e : (if j < i then j else i) = min i j := by
        by_cases h : j < i
        · rw [if_pos h]; omega
        · rw [if_neg h]; omega
      rw [e]
      exact q _ H1 (Same.refl _) (.int _)
theorem rc_int {i : Int} : RCD K (fun xs H Q => (∃ i, xs = [.int i] ∧ Q (.int i) H) ∨ ∃ k, xs = [.bl k] ∧ Q (.int (if k then 1 else 0)) H) [.int i] (.int i) := fun H1 vs hv Q q => by
  cases hv with
  | cons h1 h2 =>
    cases h2
    rw [dp_int h1]
    exact .inl ⟨i, rfl, q _ H1 (Same.refl _) (.int _)⟩
theorem rc_listT : RCP K (fun xs H Q => ∃ p ys, xs = [.ref p] ∧ (SqL K H p ys ∨ SqT K H p ys) ∧ ∀ l, H l = none → Q (.ref l) (upd H l (.lst ys))) [.tuple ds] (fun v H' => ML K H' v ds) := fun H1 vs hv Q q => by
  cases hv with
  | cons h1 h2 =>
    cases h2
    obtain ⟨a, xs, rfl, hs, hall⟩ := dp_tup h1
    exact ⟨a, xs, rfl, .inr hs, fun l hl => q _ _ (same_new hl) ⟨l, xs, rfl, upd_same, dps_same (same_new hl) _ _ hall⟩⟩
theorem rc_tupL : RCD K (fun xs H Q => ∃ p ys, xs = [.ref p] ∧ ((SqL K H p ys ∧ ∀ l, H l = none → Q (.ref l) (upd H l (.tup ys))) ∨ (SqT K H p ys ∧ Q (.ref p) H))) [.list ds] (.tuple ds) := fun H1 vs hv Q q => by
  cases hv with
  | cons h1 h2 =>
    cases h2
    obtain ⟨a, xs, rfl, hs, hall⟩ := dp_lst h1
    exact ⟨a, xs, rfl, .inl ⟨hs, fun l hl => q _ _ (same_new hl) (.tup (SqT.of upd_same) (dps_same (same_new hl) _ _ hall))⟩⟩
/-! statements -/
variable {D : Ends} {tu tw tz : TS}
theorem q_asg {i : Nat} (h : EvP te σ H P) (k : ∀ v H1, Same H H1 → P v H1 → tz D (σ.set i (some v)) H1) : tSeq (tAsg te (gName i)) tz D σ H := h H (Same.refl _) _ k
theorem q_asgD {i : Nat} (h : EvD K te σ H d) (k : ∀ v H1, Same H H1 → Dp K H1 v d → tz D (σ.set i (some v)) H1) : tSeq (tAsg te (gName i)) tz D σ H := h H (Same.refl _) _ k
theorem q_asgI {i : Nat} {n : Int} (h : EvD K te σ H (.int n)) (k : ∀ H1, Same H H1 → tz D (σ.set i (some (.int n))) H1) : tSeq (tAsg te (gName i)) tz D σ H := h H (Same.refl _) _ fun v H1 e p => by
  rw [dp_int p]
  exact k H1 e
theorem s_asg {i : Nat} (h : EvP te σ H P) (k : ∀ v H1, Same H H1 → P v H1 → D.nx (σ.set i (some v)) H1) : tAsg te (gName i) D σ H := h H (Same.refl _) _ k
theorem s_ret (h : EvP te σ H P) (k : ∀ v H1, Same H H1 → P v H1 → D.rt v H1) : tRet te D σ H := h H (Same.refl _) _ k
theorem s_if {b : Bool} (h : EvB t σ H b) (h1 : b = true → ∀ H1, Same H H1 → tu D σ H1) (h2 : b = false → ∀ H1, Same H H1 → tw D σ H1) : tIfS t tu tw D σ H := h H (Same.refl _) _ fun H1 e => by
  cases b with
  | true => exact iteT (h1 rfl H1 e)
  | false => exact iteF (h2 rfl H1 e)
theorem q_if {b : Bool} (h : EvB t σ H b) (h1 : b = true → ∀ H1, Same H H1 → tu { D with nx := tz D } σ H1) (h2 : b = false → ∀ H1, Same H H1 → tw { D with nx := tz D } σ H1) : tSeq (tIfS t tu tw) tz D σ H := s_if (D := { D with nx := tz D }) h h1 h2
/-- an if that is not taken -/
theorem q_no (h : EvB t σ H false) (k : ∀ H1, Same H H1 → tz D σ H1) : tSeq (tIfS t tu tNext) tz D σ H := q_if h (fun z => by cases z) fun _ H1 e => k H1 e
theorem s_no (h : EvB t σ H false) (k : ∀ H1, Same H H1 → D.nx σ H1) : tIfS t tu tNext D σ H := s_if h (fun z => by cases z) fun _ H1 e => k H1 e
theorem q_drop (h : EvP te σ H P) (k : ∀ v H1, Same H H1 → P v H1 → tz D σ H1) : tSeq (tDrop te) tz D σ H := h H (Same.refl _) _ k
/-- xs.append(e), e told by data -/
theorem s_app {l : Addr} {xs : List V} {i : Nat} (hi : σ[i]? = some (some (.ref l))) (hl : H l = some (.lst xs)) (h : EvP te σ H P) (hz : xs.length < 10000000) (k : ∀ v H1, Same H H1 → P v H1 → D.nx σ (upd H1 l (.lst (xs ++ [v])))) :
    tDrop (tBM K "list" rAppend (tVar i) (tCons te tNil)) D σ H :=
  ⟨_, hi, Or.inl ⟨rfl, xs, SqL.of hl⟩, h H (Same.refl _) _ fun v H2 e2 p => ⟨l, xs, v, rfl, rfl, e2 l _ hl, smlt hz, k v H2 e2 p⟩⟩
theorem q_app {l : Addr} {xs : List V} {i : Nat} (hi : σ[i]? = some (some (.ref l))) (hl : H l = some (.lst xs)) (h : EvP te σ H P) (hz : xs.length < 10000000) (k : ∀ v H1, Same H H1 → P v H1 → tz D σ (upd H1 l (.lst (xs ++ [v])))) :
    tSeq (tDrop (tBM K "list" rAppend (tVar i) (tCons te tNil))) tz D σ H := s_app (D := { D with nx := tz D }) hi hl h hz k
end

/-! ### comprehensions that make data without lists within -/
def givenD (n : Nat) (f : Nat → Bool) (v : Nat → PyData) : List PyData := ((List.range n).filter f).map v
theorem givenD_yes {n : Nat} {f : Nat → Bool} {v : Nat → PyData} (h : f n = true) : givenD (n + 1) f v = givenD n f v ++ [v n] := by
  unfold givenD
  rw [List.range_succ, List.filter_append, List.map_append]; rw [List.filter_cons, if_pos h] <;> rfl
theorem givenD_no {n : Nat} {f : Nat → Bool} {v : Nat → PyData} (h : f n = false) : givenD (n + 1) f v = givenD n f v := by
  unfold givenD
  rw [List.range_succ, List.filter_append, List.map_append]; rw [List.filter_cons, if_neg (by rw [h]; decide)]
  show _ ++ [] = _
  rw [List.append_nil]
theorem givenD_len (n : Nat) (f : Nat → Bool) (v : Nat → PyData) : (givenD n f v).length ≤ n := by
  unfold givenD
  rw [List.length_map]
  have h := (List.range n).length_filter_le f
  rw [List.length_range] at h
  exact h
theorem givenD_td {n : Nat} {f : Nat → Bool} {v : Nat → PyData} (h : ∀ i, i < n → f i = true → TD (v i) = true) : TDs (givenD n f v) = true := by
  refine TDs_of fun d hd => ?_
  unfold givenD at hd
  obtain ⟨i, hi, rfl⟩ := List.mem_map.mp hd
  obtain ⟨h1, h2⟩ := List.mem_filter.mp hi
  exact h i (List.mem_range.mp h1) h2
theorem givenD_all {n : Nat} {v : Nat → PyData} : givenD n (fun _ => true) v = (List.range n).map v := by
  unfold givenD
  rw [(List.filter_eq_self).mpr fun _ _ => rfl]
theorem givenD_nil {n : Nat} {f : Nat → Bool} {v : Nat → PyData} (h : ∀ i, i < n → f i = false) : givenD n f v = [] := by
  unfold givenD
  rw [List.filter_eq_nil_iff.mpr (fun i hi => by rw [h i (List.mem_range.mp hi)]; decide)] <;> rfl
/-- the word of a comprehension: over H, the list at D holds the data made so far -/
def Cw (K : PySem.W.Frag) (H : Hp) (D : Addr) (n : Nat) (f : Nat → Bool) (v : Nat → PyData) (i : Nat) (H' : Hp) : Prop := H D = none ∧ Same H H' ∧ ∃ vs, H' D = some (.lst vs) ∧ DpAll K H' vs (givenD i f v)
section
variable {K : PySem.W.Frag} {σ : St} {H H' : Hp} {te : TE} {t : TT}
theorem cw0 {D : Addr} {n : Nat} {f : Nat → Bool} {v : Nat → PyData} (h : H D = none) : Cw K H D n f v 0 (upd H D (.lst [])) := ⟨h, same_new h, [], upd_same, .nil⟩
theorem cw_turn {D : Addr} {n i : Nat} {f : Nat → Bool} {v : Nat → PyData} {σ2 : St} {Hb : Hp} (hn : n ≤ 10000000) (hi : i < n) (p : Cw K H D n f v i H') (htd : ∀ j, j < n → f j = true → TD (v j) = true)
    (eB : Same H' Hb) (ht : EvB t σ2 Hb (f i)) (he : f i = true → EvD K te σ2 Hb (v i)) :
    t σ2 Hb fun b H3 => if b = true then te σ2 H3 fun y H4 => ∃ acc, H4 D = some (.lst acc) ∧ acc.length < sizeLine ∧ Cw K H D n f v (i + 1) (upd H4 D (.lst (acc ++ [y]))) else Cw K H D n f v (i + 1) H3 := by
  obtain ⟨p1, p2, vs, p3, p4⟩ := p
  refine ht Hb (Same.refl _) _ fun H3 e3 => ?_
  cases hf : f i with
  | true =>
    refine iteT (he hf H3 e3 _ fun y H4 e4 py => ?_)
    have hD4 : H4 D = some (.lst vs) := e4 D _ (e3 D _ (eB D _ p3))
    have l1 := dps_len p4
    have l2 := givenD_len i f v
    refine ⟨vs, hD4, smlt (by omega), p1, same_mut (((p2.trans eB).trans e3).trans e4) p1, _, upd_same, ?_⟩
    rw [givenD_yes hf]
    have k : TKeep H4 (upd H4 D (.lst (vs ++ [y]))) := TKeep.lst hD4
    exact dps_app (dps_tk k _ _ (givenD_td fun j hj => htd j (by omega)) (dps_same ((eB.trans e3).trans e4) _ _ p4)) (.cons (dp_tk k _ _ (htd i hi hf) py) .nil)
  | false =>
    refine iteF ⟨p1, (p2.trans eB).trans e3, vs, e3 D _ (eB D _ p3), ?_⟩
    rw [givenD_no hf]
    exact dps_same (eB.trans e3) _ _ p4
end
/-! ### what is walked, told by data -/
/-- .. and stands in H -/
def EvIo (K : PySem.W.Frag) (wi : TI) (σ : St) (H : Hp) (items : List PyData) : Prop := ∀ H1, Same H H1 → ∀ R : It → Hp → Prop,
  (∀ (J : It) (G : Hp → Prop) (Y : Nat → Hp → V → Hp → Prop) H2, Same H1 H2 → L2.Walk J items.length G Y → (∀ H', Same H H' → G H') →
    (∀ i x Ha Hb, i < items.length → Same H Ha → Y i Ha x Hb → Same Ha Hb ∧ ∃ d, items[i]? = some d ∧ Dp K Hb x d) → R J H2) → wi σ H1 R
def EvI (K : PySem.W.Frag) (wi : TI) (σ : St) (H : Hp) (items : List PyData) : Prop := ∀ H1, Same H H1 → ∀ R : It → Hp → Prop,
  (∀ (J : It) (G : Hp → Prop) (Y : Nat → Hp → V → Hp → Prop) H2, Same H1 H2 → L2.Walk J items.length G Y → (∀ H', Same H2 H' → G H') →
    (∀ i x Ha Hb, i < items.length → Same H2 Ha → Y i Ha x Hb → Same Ha Hb ∧ ∃ d, items[i]? = some d ∧ Dp K Hb x d) → R J H2) → wi σ H1 R
section
variable {K : PySem.W.Frag} {σ : St} {H H' : Hp} {te : TE} {t : TT} {wi : TI} {items ds : List PyData}
theorem EvIo.i (h : EvIo K wi σ H items) : EvI K wi σ H items := fun H1 e R q => h H1 e R fun J G Y H2 e2 w hG hY =>
  q J G Y H2 e2 w (fun H' a => hG H' ((e.trans e2).trans a)) fun i x Ha Hb hi a y => hY i x Ha Hb hi ((e.trans e2).trans a) y
theorem EvI.mono (e : Same H H') (h : EvI K wi σ H items) : EvI K wi σ H' items := fun H1 a R q => h H1 (e.trans a) R q
theorem EvI.is {items' : List PyData} (h : EvI K wi σ H items) (e : items = items') : EvI K wi σ H items' := e ▸ h
theorem EvIo.is {items' : List PyData} (h : EvIo K wi σ H items) (e : items = items') : EvIo K wi σ H items' := e ▸ h
theorem getI {α : Type} {l : List α} {i : Nat} (h : i < l.length) : ∃ d, l[i]? = some d := ⟨l[i], List.getElem?_eq_getElem h⟩
/-- a tuple at a name -/
theorem ei_tupV {i : Nat} {v : V} (h : σ[i]? = some (some v)) (hd : Dp K H v (.tuple ds)) : EvIo K (iTup K (tVar i)) σ H ds := fun H1 e R q => by
  obtain ⟨a, xs, rfl, hs, hall⟩ := dp_tup hd
  have hl := dps_len hall
  refine ⟨_, h, a, rfl, ⟨xs, same_tup e hs⟩, ?_⟩
  refine q (Itt K a) _ _ H1 (Same.refl _) (hl ▸ walk_tup (xs := xs)) (fun H' a => same_tup a hs) fun j x Ha Hb hj a y => ?_
  obtain ⟨rfl, hx⟩ := y
  obtain ⟨d, h1, h2⟩ := dps_get' hall hx
  exact ⟨Same.refl _, d, h1, dp_same a _ _ h2⟩
theorem ei_lstV {i : Nat} {v : V} (h : σ[i]? = some (some v)) (hd : Dp K H v (.list ds)) : EvIo K (iList K (tVar i)) σ H ds := fun H1 e R q => by
  obtain ⟨a, xs, rfl, hs, hall⟩ := dp_lst hd
  have hl := dps_len hall
  refine ⟨_, h, a, rfl, ⟨xs, e.seq hs⟩, ?_⟩
  refine q (Itl K a) _ _ H1 (Same.refl _) (hl ▸ walk_list (xs := xs)) (fun H' a => a.seq hs) fun j x Ha Hb hj a y => ?_
  obtain ⟨rfl, hx⟩ := y
  obtain ⟨d, h1, h2⟩ := dps_get' hall hx
  exact ⟨Same.refl _, d, h1, dp_same a _ _ h2⟩
/-- t[k], a tuple within a tuple at a name -/
theorem ei_tupIx {i : Nat} {v : V} {k : Int} {es : List PyData} (h : σ[i]? = some (some v)) (hd : Dp K H v (.tuple es)) (hk : atI es k = some (.tuple ds)) : EvIo K (iTup K (tOp (rIxT K) (tVar i) (tC (.int k)))) σ H ds := fun H1 e R q => by
  obtain ⟨b, ys, rfl, hb, hbll⟩ := dp_tup hd
  obtain ⟨w, hw, hwd⟩ := atI_dps hbll hk
  obtain ⟨a, xs, rfl, hs, hall⟩ := dp_tup hwd
  have hl := dps_len hall
  refine ⟨_, h, b, ys, k, _, rfl, rfl, same_tup e hb, hw, a, rfl, ⟨xs, same_tup e hs⟩, ?_⟩
  refine q (Itt K a) _ _ H1 (Same.refl _) (hl ▸ walk_tup (xs := xs)) (fun H' a => same_tup a hs) fun j x Ha Hb hj a y => ?_
  obtain ⟨rfl, hx⟩ := y
  obtain ⟨d, h1, h2⟩ := dps_get' hall hx
  exact ⟨Same.refl _, d, h1, dp_same a _ _ h2⟩
/-- a list, a tuple made or found on the way -/
theorem ei_lst {te : TE} (h : EvD K te σ H (.list ds)) : EvI K (iList K te) σ H ds := fun H1 e R q => h H1 e _ fun v H2 e2 hd => by
  obtain ⟨a, xs, rfl, hs, hall⟩ := dp_lst hd
  have hl := dps_len hall
  refine ⟨a, rfl, ⟨xs, hs⟩, ?_⟩
  refine q (Itl K a) _ _ H2 e2 (hl ▸ walk_list (xs := xs)) (fun H' a => a.seq hs) fun j x Ha Hb hj a y => ?_
  obtain ⟨rfl, hx⟩ := y
  obtain ⟨d, h1, h2⟩ := dps_get' hall hx
  exact ⟨Same.refl _, d, h1, dp_same a _ _ h2⟩
theorem ei_tup {te : TE} (h : EvD K te σ H (.tuple ds)) : EvI K (iTup K te) σ H ds := fun H1 e R q => h H1 e _ fun v H2 e2 hd => by
  obtain ⟨a, xs, rfl, hs, hall⟩ := dp_tup hd
  have hl := dps_len hall
  refine ⟨a, rfl, ⟨xs, hs⟩, ?_⟩
  refine q (Itt K a) _ _ H2 e2 (hl ▸ walk_tup (xs := xs)) (fun H' a => same_tup a hs) fun j x Ha Hb hj a y => ?_
  obtain ⟨rfl, hx⟩ := y
  obtain ⟨d, h1, h2⟩ := dps_get' hall hx
  exact ⟨Same.refl _, d, h1, dp_same a _ _ h2⟩
def rngD (lo : Int) (n : Nat) : List PyData := (List.range n).map fun i => .int (lo + (i : Nat))
theorem rngD_len (lo : Int) (n : Nat) : (rngD lo n).length = n := by unfold rngD; rw [List.length_map, List.length_range]
theorem rngD_get {lo : Int} {n i : Nat} (h : i < n) : (rngD lo n)[i]? = some (.int (lo + (i : Nat))) := by
  unfold rngD
  rw [List.getElem?_map, List.getElem?_range h] <;> rfl
theorem rngD_get' {lo : Int} {n i : Nat} {d : PyData} (h : (rngD lo n)[i]? = some d) : i < n ∧ d = .int (lo + (i : Nat)) := by
  have hi : i < n := by
    have := (List.getElem?_eq_some_iff.mp h).1
    rw [rngD_len] at this
    exact this
  rw [rngD_get hi] at h
  exact ⟨hi, (Option.some.inj h).symm⟩
theorem ei_rng1 {ta : TA} {n : Nat} (h : EvA K ta σ H [.int (n : Int)]) (hn : n < 2 ^ 62) : EvIo K (iRng1 ta) σ H (rngD 0 n) := fun H1 e R q => h H1 e _ fun vs H2 e2 ps => by
  cases ps with
  | cons p1 p2 =>
    cases p2
    rw [dp_int p1]
    refine ⟨n, rfl, by omega, by omega, ?_⟩
    have en : (n : Int).toNat = n := by omega
    rw [en]
    refine q (Itr 0 n) (fun _ => True) (YFn fun i => .int (0 + (i : Nat))) H2 e2 (by rw [rngD_len]; exact walk_range) (fun _ _ => trivial) fun j x Ha Hb hj a y => ?_
    obtain ⟨rfl, rfl⟩ := y
    exact ⟨Same.refl _, _, rngD_get (by rw [rngD_len] at hj; exact hj), .int _⟩
theorem ei_rng2 {ta : TA} {lo hi : Int} (h : EvA K ta σ H [.int lo, .int hi]) (h1 : -(2 ^ 62) ≤ lo ∧ lo < 2 ^ 62 ∧ -(2 ^ 62) ≤ hi ∧ hi < 2 ^ 62) : EvIo K (iRng2 ta) σ H (rngD lo (hi - lo).toNat) := fun H1 e R q => h H1 e _ fun vs H2 e2 ps => by
  cases ps with
  | cons p1 p2 =>
    cases p2 with
    | cons p2 p3 =>
      cases p3
      rw [dp_int p1, dp_int p2]
      refine ⟨lo, hi, rfl, h1, ?_⟩
      refine q (Itr lo (hi - lo).toNat) (fun _ => True) (YFn fun i => .int (lo + (i : Nat))) H2 e2 (by rw [rngD_len]; exact walk_range) (fun _ _ => trivial) fun j x Ha Hb hj a y => ?_
      obtain ⟨rfl, rfl⟩ := y
      exact ⟨Same.refl _, _, rngD_get (by rw [rngD_len] at hj; exact hj), .int _⟩
/-- THE COMPREHENSION -/
theorem em_lc {g : TG} {vs : List Nat} (hI : EvI K wi σ H items) (f : Nat → Bool) (v : Nat → PyData) (hn : items.length ≤ 10000000) (htd : ∀ j, j < items.length → f j = true → TD (v j) = true)
    (hs : ∀ i d x H1, items[i]? = some d → Same H H1 → Dp K H1 x d → ∃ σ2, wipe σ2 vs = wipe σ vs ∧ (∀ Q : St → Hp → Prop, Q σ2 H1 → g x (wipe σ vs) H1 Q) ∧ EvB t σ2 H1 (f i) ∧ (f i = true → EvD K te σ2 H1 (v i))) :
    EvM K (tLc wi g t te vs) σ H (givenD items.length f v) := fun H0 e Q q => by
  refine hI H0 e _ fun J G Y H1 e1 w hG hY D hD => ?_
  refine lc_it w (Cw K H1 D items.length f v) (cw0 hD) (fun i H' _ p => hG H' p.2.1) (fun i x Ha Hb hi p y => ?_) (fun H' p => ?_)
  · obtain ⟨eab, d, hd, hx⟩ := hY i x Ha Hb hi p.2.1 y
    obtain ⟨σ2, h1, h2, h3, h4⟩ := hs i d x Hb hd (((e.trans e1).trans p.2.1).trans eab) hx
    exact h2 _ ⟨h1, cw_turn hn hi p htd eab h3 h4⟩
  · obtain ⟨p1, p2, ws, p3, p4⟩ := p
    exact q _ H' (e1.trans p2) ⟨D, ws, rfl, p3, p4⟩
/-- .. its target a name -/
theorem em_lcN {j : Nat} {vs : List Nat} (hI : EvI K wi σ H items) (f : Nat → Bool) (v : Nat → PyData) (hw : ∀ x, wipe ((wipe σ vs).set j (some x)) vs = wipe σ vs) (hn : items.length ≤ 10000000) (htd : ∀ j, j < items.length → f j = true → TD (v j) = true)
    (hs : ∀ i d x H1, items[i]? = some d → Same H H1 → Dp K H1 x d → EvB t ((wipe σ vs).set j (some x)) H1 (f i) ∧ (f i = true → EvD K te ((wipe σ vs).set j (some x)) H1 (v i))) :
    EvM K (tLc wi (gName j) t te vs) σ H (givenD items.length f v) :=
  em_lc hI f v hn htd fun i d x H1 h1 h2 h3 => ⟨_, hw x, fun Q q => q, hs i d x H1 h1 h2 h3⟩
/-! THE FOR -/
variable {D : Ends} {tb tz : TS} {g : TG}
theorem s_for {H0 : Hp} (hI : EvIo K wi σ H0 items) (e : Same H0 H) (Pv : Nat → St → Hp → Prop) (h0 : ∀ H1, Same H H1 → Pv 0 σ H1) (hS : ∀ i σ' H', i ≤ items.length → Pv i σ' H' → Same H0 H')
    (hs : ∀ i d x σ' H' H2, items[i]? = some d → Pv i σ' H' → Same H' H2 → Dp K H2 x d → g x σ' H2 fun σ2 H3 => tb { D with nx := Pv (i + 1), ct := Pv (i + 1), bk := D.nx } σ2 H3)
    (hd : ∀ σ' H', Pv items.length σ' H' → D.nx σ' H') : tFor wi g tb D σ H :=
  hI H e _ fun J G Y H1 e1 w hG hY => for_it w Pv (h0 H1 e1) (fun i σ' H' hi p => hG H' (hS i σ' H' hi p)) (fun i x σ' Ha Hb hi p y => by
    obtain ⟨eab, d, h1, h2⟩ := hY i x Ha Hb hi (hS i σ' Ha (Nat.le_of_lt hi) p) y
    exact hs i d x σ' Ha Hb h1 p eab h2) hd
theorem q_for {H0 : Hp} (hI : EvIo K wi σ H0 items) (e : Same H0 H) (Pv : Nat → St → Hp → Prop) (h0 : ∀ H1, Same H H1 → Pv 0 σ H1) (hS : ∀ i σ' H', i ≤ items.length → Pv i σ' H' → Same H0 H')
    (hs : ∀ i d x σ' H' H2, items[i]? = some d → Pv i σ' H' → Same H' H2 → Dp K H2 x d → g x σ' H2 fun σ2 H3 => tb { D with nx := Pv (i + 1), ct := Pv (i + 1), bk := tz D } σ2 H3)
    (hd : ∀ σ' H', Pv items.length σ' H' → tz D σ' H') : tSeq (tFor wi g tb) tz D σ H := s_for (D := { D with nx := tz D }) hI e Pv h0 hS hs hd
/-- over a list or tuple made on the way: all that stands behind it stays -/
theorem q_forN (hI : EvI K wi σ H items) (Pv : Hp → Nat → St → Hp → Prop) (h0 : ∀ H1, Same H H1 → Pv H1 0 σ H1) (hS : ∀ H1 i σ' H', i ≤ items.length → Pv H1 i σ' H' → Same H1 H')
    (hs : ∀ H1 i d x σ' H' H2, items[i]? = some d → Pv H1 i σ' H' → Same H' H2 → Dp K H2 x d → g x σ' H2 fun σ2 H3 => tb { D with nx := Pv H1 (i + 1), ct := Pv H1 (i + 1), bk := tz D } σ2 H3)
    (hd : ∀ H1 σ' H', Pv H1 items.length σ' H' → tz D σ' H') : tSeq (tFor wi g tb) tz D σ H :=
  hI H (Same.refl _) _ fun J G Y H1 e1 w hG hY => for_it w (Pv H1) (h0 H1 e1) (fun i σ' H' hi p => hG H' (hS H1 i σ' H' hi p)) (fun i x σ' Ha Hb hi p y => by
    obtain ⟨eab, d, h1, h2⟩ := hY i x Ha Hb hi (hS H1 i σ' Ha (Nat.le_of_lt hi) p) y
    exact hs H1 i d x σ' Ha Hb h1 p eab h2) (hd H1)
end
/-! targets -/
section
variable {K : PySem.W.Frag} {H : Hp} {σ : St} {v : V} {d1 d2 d3 : PyData}
theorem g_tup2 {i j : Nat} (h : Dp K H v (.tuple [d1, d2])) : ∃ x y, Dp K H x d1 ∧ Dp K H y d2 ∧ ∀ Q : St → Hp → Prop, Q ((σ.set i (some x)).set j (some y)) H → gTup K 2 (gCons (gName i) (gCons (gName j) gNil)) v σ H Q := by
  obtain ⟨a, xs, rfl, hs, hall⟩ := dp_tup h
  cases hall with
  | cons h1 h2 =>
    cases h2 with
    | cons h2 h3 =>
      cases h3
      exact ⟨_, _, h1, h2, fun Q q => ⟨a, _, rfl, hs, rfl, _, _, rfl, _, _, rfl, rfl, q⟩⟩
theorem g_tup3 {i j k : Nat} (h : Dp K H v (.tuple [d1, d2, d3])) : ∃ x y z, Dp K H x d1 ∧ Dp K H y d2 ∧ Dp K H z d3 ∧ ∀ Q : St → Hp → Prop, Q (((σ.set i (some x)).set j (some y)).set k (some z)) H → gTup K 3 (gCons (gName i) (gCons (gName j) (gCons (gName k) gNil))) v σ H Q := by
  obtain ⟨a, xs, rfl, hs, hall⟩ := dp_tup h
  cases hall with
  | cons h1 h2 =>
    cases h2 with
    | cons h2 h3 =>
      cases h3 with
      | cons h3 h4 =>
        cases h4
        exact ⟨_, _, _, h1, h2, h3, fun Q q => ⟨a, _, rfl, hs, rfl, _, _, rfl, _, _, rfl, _, _, rfl, rfl, q⟩⟩
end
end K7
/-! ### part B: rules that the layer lacks: enumerate(tuple), zip(tuple, list), sum(tuple), min of data -/
namespace K7
open PySem L2
/-! #### an iterator that hands out tuples, from the library's WalksT -/
/-- in H, the turn i of J may give a tuple of these values -/
def Gives (J : It) (i : Nat) (H : Hp) (vals : Array Value) : Prop := ∃ xs : List V, xs.length ≤ sizeLine ∧ Vals xs vals.toList ∧ ∀ T, H T = none → J.yld i H (.ref T) (upd H T (.tup xs))
/-- what WalksT says at one state that is kept -/
def Turns (P : Program) (w : World) (A : Around) (J : It) (fp : List Addr) (it : Addr) (tn : Nat → Heap → Prop) (i : Nat) (H : Hp) (h : Heap) : Prop :=
  ∃ (n : Nat) (Pt : Nat → Array Value → Prop) (St : Nat → Heap → Prop) (Mid : Nat → Addr → Heap → Prop) (fq wr : List Addr),
    PySem.WalksT P w A it fq wr n Pt St Mid ∧ (∀ b ∈ wr, b ∈ fp) ∧ St i h ∧ (∀ j k, St j k → tn j k) ∧ (J.go i H → i < n ∧ ∀ vals, Pt i vals → Gives J i H vals) ∧ (J.stop i H → i = n)
theorem turn_by {P : Program} {w : World} {K : PySem.W.Frag} {elts : List Expr} {kk : Nat} {tpos : Pos} {J : It} {fp : List Addr} {it : Addr} {tn : Nat → Heap → Prop} (m : it ∈ fp)
    (there : ∀ i h, tn i h → ∀ b ∈ fp, ∃ o, h.get? b = some o ∧ ∀ v, o.data ≠ .cell v) (stays : ∀ i h h', tn i h → (∀ b ∈ fp, ∀ o, h.get? b = some o → h'.get? b = some o) → tn i h')
    (own : ∀ (A : Around) (i : Nat) (s : Shared) (Q E : Value → Shared → Prop), tn i s.heap → Q (.ref it) s → wpAny (model P w) A (pyIter (.ref it)) Q E s)
    (hW : ∀ (X : Cx), X.prog = P → X.w = w → X.K = K → X.calm = true → ∀ (i : Nat) pins σ H (s : Shared), Inv X pins σ H s → tn i s.heap → J.go i H ∨ J.stop i H → Turns P w X.A J fp it tn i H s.heap) :
    Turn P w K (.Tuple elts kk tpos) J fp it tn where
  mem := m
  obj := there
  keep := stays
  self := own
  item X e1 e2 e3 hc i pins s σ H E I hf st hg := by
    obtain ⟨n, Pt, St, Mid, fq, wr, W, sub, at0, back, hgo, _⟩ := hW X e1 e2 e3 hc i pins σ H s I st (.inl hg)
    obtain ⟨lt, give⟩ := hgo hg
    subst e1 e2 e3
    refine W.item i s _ E lt at0 fun T vals h1 tk hp hT hv hm k1 => ⟨.ref T, rfl, W.go elts kk tpos i T _ _ E hm fun h2 st2 k2 => ?_⟩
    obtain ⟨xs, small, hx, hy⟩ := give vals hp
    have hn : H T = none := Inv.hok I |>.fresh hT
    have apart : ∀ b ∈ fp, b ≠ T := fun b hb e => by
      obtain ⟨o, ho, _⟩ := there i _ st b hb
      have := Heap.lt_size ho
      rw [e] at this
      exact absurd this (Nat.not_lt.mpr hT)
    have hv2 : h2.IsTuple T vals := by
      obtain ⟨o, ho, r⟩ := hv
      exact ⟨o, k2 T o (W.apart i T h1 hm) ho, r⟩
    have both : ∀ b o, b ∉ fp → s.heap.get? b = some o → h2.get? b = some o := fun b o out ho => k2 b o (fun q => out (sub b q)) (k1 b o (fun q => out (sub b q)) ho)
    exact ⟨.ref T, _, I.turnedNew (t' := tk) (ob := .tup xs) both hf hT ⟨small, vals.toList, hx, hv2⟩, rfl, hy T hn, back _ _ st2, fun b hb => (upd_ne (apart b hb)).trans (hf b hb).1⟩
  done X e1 e2 e3 hc i pins s σ H E I hf st hg := by
    obtain ⟨n, Pt, St, Mid, fq, wr, W, sub, at0, _, _, hend⟩ := hW X e1 e2 e3 hc i pins σ H s I st (.inr hg)
    have hi := hend hg
    subst hi
    subst e1 e2 e3
    exact W.done s _ E at0 fun h1 tk k1 => ⟨rfl, I.turnedL (t' := tk) (fun b o out ho => k1 b o (fun q => out (sub b q)) ho) hf⟩
/-- the iterator that has just been made -/
theorem pie_new {X : Cx} {pins : List (Addr × Obj)} {σ : St} {tg : Expr} {R : It → Hp → Prop} {s : Shared} {H : Hp} {h : Heap} {J : It} {fp : List Addr} {it : Addr} {tn : Nat → Heap → Prop} (I : Inv X pins σ H s) (grown : ∀ b o, s.heap.get? b = some o → h.get? b = some o)
    (T : Turn X.prog X.w X.K tg J fp it tn) (at0 : tn 0 h) (young : ∀ b ∈ fp, s.heap.objs.size ≤ b) (r : R J H) : PIE X pins σ tg R (.ref it) { s with heap := h } :=
  ⟨it, fp, tn, J, H, rfl, I.kept (t' := s.toks) grown, T, at0, fun b hb => I.fpOk (young b hb) (I.hok.fresh (young b hb)), r⟩
theorem calm_in {X : Cx} {pins : List (Addr × Obj)} {σ : St} {H : Hp} {s : Shared} (I : Inv X pins σ H s) (hc : X.calm = true) : X.A.in1.handled = none := by
  simpa using I.ok.hd hc
theorem nodata {o : Obj} {fs : Array Value} (h : o.data = .fields fs) : ∀ v, o.data ≠ .cell v := fun v e => by rw [h] at e; cases e
theorem at_arr {its : List Value} {i : Nat} {u x : Value} (h : its[i]? = some u) (g : its.toArray[i]? = some x) : x = u := by
  rw [List.getElem?_toArray, h] at g
  exact (Option.some.inj g).symm

/-! #### enumerate(tuple) -/
def tupIt (a : Addr) : Obj := { cls := .type "tuple_iterator", data := .fields #[.ref a, .int 0 0] }
def enumO (it : Addr) : Obj := { cls := .type "enumerate", data := .fields #[.none, .bool false, .ref it, rawInt 0, .none, .none] }
def enumH (a : Addr) (h : Heap) : Heap := (h.push (tupIt a)).push (enumO h.objs.size)
theorem enum_new {a : Addr} {items : Array Value} : Meets (Builtin.«enumerate.__new__» ⟨[.type "enumerate", .ref a], []⟩) (fun _ R s => s.heap.IsTuple a items ∧ R (.ok (.ret (.ref (s.heap.push (tupIt a)).objs.size))) { s with heap := enumH a s.heap }) :=
  .of_wp fun prog w A R ⟨hp, gs, dr, tk, os⟩ ⟨isT, done⟩ => by
    have below := sub_enumerate
    have iter : ∀ {B : Around} {Z U : Value → Shared → Prop}, U (.ref hp.objs.size) ⟨hp.push (tupIt a), gs, dr, tk, os⟩ →
        wpAny (model prog w) B (pyIter (.ref a)) U Z ⟨hp, gs, dr, tk, os⟩ := (begins_tuple a items).iter prog w _ _ _ _ isT
    wp_walk using iter
    refine wpAny_stack_any fun stk => wpAny_pure ?_
    split
    · next c _ _ _ _ _ =>
      by_cases hcl : (c == Value.type "enumerate") = true
      · rw [hcl]
        wp_walk using iter
        exact ⟨_, rfl, done⟩
      · rw [Bool.eq_false_iff.mpr hcl]
        wp_walk using iter
        exact ⟨_, rfl, done⟩
    · wp_walk using iter
      exact ⟨_, rfl, done⟩
theorem enum_call {prog : Program} {w : World} {A : Around} {E Q : Value → Shared → Prop} {s : Shared} {a : Addr} {items : Array Value} (isT : s.heap.IsTuple a items) (k : Q (.ref (s.heap.objs.size + 1)) { s with heap := enumH a s.heap }) :
    wpAny (model prog w) A (call (.type "enumerate") [.ref a]) Q E s :=
  callType_new F.called_enumerate (by decide) (F.typeCall_enumerate_1 _) (F.newCall_enumerate_1 _) (fun o => F.args_object_init_2 o _)
    F.entry_enumerate_new (enum_new (a := a) (items := items)) ⟨isT, ⟨_, Heap.get?_push_size _ rfl, rfl⟩, by rw [Heap.size_push]; exact k⟩
theorem enumH_grown {a : Addr} {h : Heap} (b : Addr) (o : Obj) (e : h.get? b = some o) : (enumH a h).get? b = some o := Heap.get?_push_of_some _ (Heap.get?_push_of_some _ e)
theorem enumH_it {a : Addr} {h : Heap} : (enumH a h).IsTupleIter h.objs.size a 0 := ⟨_, Heap.get?_push_of_some _ (Heap.get?_push_size _ rfl), rfl, rfl⟩
theorem enumH_en {a : Addr} {h : Heap} : IsEnum (enumH a h) (h.objs.size + 1) h.objs.size 0 .none := by
  have z := Heap.get?_push_size (h.push (tupIt a)) (o := enumO h.objs.size) rfl
  rw [Heap.size_push] at z
  exact z
def IteT (K : PySem.W.Frag) (a : Addr) : It where
  go i H := ∃ (xs : List V) (x : V), SqT K H a xs ∧ xs[i]? = some x
  yld i H v H' := ∃ T x, v = .ref T ∧ H T = none ∧ H' = upd H T (.tup [.int (i : Nat), x]) ∧ ∀ xs, SqT K H a xs → xs[i]? = some x
  stop i H := ∃ xs : List V, SqT K H a xs ∧ xs.length = i
theorem turn_enumT {P : Program} {w : World} {K : PySem.W.Frag} {elts : List Expr} {kk : Nat} {tpos : Pos} (a e it : Addr) (hai : a ≠ it) (hae : a ≠ e) (hei : e ≠ it) :
    Turn P w K (.Tuple elts kk tpos) (IteT K a) [e, it] e (fun i h => (∃ old, IsEnum h e it (0 + (i : Int)) old) ∧ h.IsTupleIter it a i) :=
  turn_by List.mem_cons_self
    (fun i h st b hb => by
      obtain ⟨⟨old, he⟩, o, ho, _, hd⟩ := st
      rcases (List.mem_cons).mp hb with z | hb
      · subst z
        exact ⟨_, he, nodata rfl⟩
      · rw [(List.mem_singleton).mp hb]
        exact ⟨o, ho, nodata hd⟩)
    (fun i h h' st k => ⟨st.1.imp fun _ he => k e List.mem_cons_self _ he, st.2.at fun o ho => k it (List.mem_cons_of_mem _ List.mem_cons_self) o ho⟩)
    (fun A i s Q E st q => st.1.elim fun _ he => wpAny_pyIter_enum he q)
    fun X e1 e2 e3 hc i pins σ H s I st gs => by
      subst e1 e2 e3
      have ex : ∃ xs, SqT X.K H a xs := gs.elim (fun ⟨xs, _, h, _⟩ => ⟨xs, h⟩) fun ⟨xs, h, _⟩ => ⟨xs, h⟩
      obtain ⟨xs, hq⟩ := ex
      obtain ⟨its, rv, isT, _⟩ := I.tuple hq
      have len := rv.length
      refine ⟨_, _, _, _, _, _, PySem.WalksT.enumFrom 0 (Draws.tuple (calm_in I hc) it a hai its.toArray) e hei ?_ List.mem_cons_self, fun b hb => hb, ⟨st.1, st.2, isT⟩, fun j k z => ⟨z.1, z.2.1⟩, fun ⟨ys, x, hy, hx⟩ => ?_, fun ⟨ys, hy, hl⟩ => ?_⟩
      · simp only [List.mem_cons, List.not_mem_nil, or_false, not_or]
        exact ⟨hei, Ne.symm hae⟩
      · rw [I.tuple_inj hy hq] at hx
        obtain ⟨u, hu, (ru : RelV x u)⟩ := rv.get hx
        refine ⟨by rw [List.size_toArray]; exact (List.getElem?_eq_some_iff.mp hu).1, fun vals ⟨t, z, hz, ev⟩ => ⟨[.int (i : Nat), x], by show 2 ≤ sizeLine; decide, ?_, fun T hT => ⟨T, x, rfl, hT, rfl, fun l hl => by rw [I.tuple_inj hl hq]; exact hx⟩⟩⟩
        rw [ev, at_arr hu hz, Int.zero_add]
        exact .cons ⟨t, rfl⟩ (.cons ru .nil)
      · rw [I.tuple_inj hy hq] at hl
        rw [List.size_toArray]
        omega
def iEnumT (K : PySem.W.Frag) (ta : TA) : TI := fun σ H R => ta σ H fun vs H1 => ∃ a xs, vs = [.ref a] ∧ SqT K H1 a xs ∧ R (IteT K a) H1
theorem pi_enumT {X : Cx} {e : Expr} {ta : TA} {p pos tpos : Pos} {elts : List Expr} {kk : Nat} (hg : Gl X "enumerate") (hm : X.mg "enumerate" = none) (ha : PA X [e] ta) (hs : starEach [e] X.env = [(false, eval e X.env)] := by rfl) :
    PI X (.Tuple elts kk tpos) (.Call (.Name "enumerate" p) [e] [] pos) (iEnumT X.K ta) where
  run pins s σ H R I h := PyProof.Rows.Call_ (ld_blt I hg hm PyProof.Rows.boot_enumerate (PyProof.Rows.callWith_type1 (thn (ha.run pos pins s σ H _ I h) fun us s1 ⟨vs, H1, I1, r1, got⟩ => by
    obtain ⟨a, xs, rfl, hq, hr⟩ := got
    rw [Vals.ref1 r1]
    obtain ⟨its, rv, isT, _⟩ := I1.tuple hq
    have lt : a < s1.heap.objs.size := by
      obtain ⟨o, ho, _⟩ := id isT
      exact Heap.lt_size ho
    refine enum_call isT (wpAny_pyIter_enum enumH_en (pie_new I1 enumH_grown (turn_enumT a _ s1.heap.objs.size (Nat.ne_of_lt lt) (Nat.ne_of_lt (Nat.lt_succ_of_lt lt)) (Nat.succ_ne_self _)) ⟨⟨.none, enumH_en⟩, enumH_it⟩ (fun b hb => ?_) hr))
    rcases (List.mem_cons).mp hb with z | hb
    · rw [z]
      exact Nat.le_succ _
    · rw [(List.mem_singleton).mp hb]
      exact Nat.le_refl _) hs rfl))
theorem walk_enumT {K : PySem.W.Frag} {a : Addr} {xs : List V} : L2.Walk (IteT K a) xs.length (fun H => SqT K H a xs) (YPair (fun i => some (.int (i : Nat))) (fun i => xs[i]?)) :=
  ⟨fun i _ hi q => ⟨xs, _, q, List.getElem?_eq_getElem hi⟩, fun _ q => ⟨xs, q, rfl⟩, fun i H v H' _ q ⟨T, x, e1, e2, e3, e4⟩ => ⟨T, _, x, e1, e2, e3, rfl, e4 xs q⟩⟩

/-! #### zip(tuple, list) -/
def ItzM (K : PySem.W.Frag) (a b : Addr) : It where
  go i H := ∃ (xs ys : List V) (x y : V), SqT K H a xs ∧ SqL K H b ys ∧ xs[i]? = some x ∧ ys[i]? = some y
  yld i H v H' := ∃ T x y, v = .ref T ∧ H T = none ∧ H' = upd H T (.tup [x, y]) ∧ (∀ xs, SqT K H a xs → xs[i]? = some x) ∧ ∀ ys, SqL K H b ys → ys[i]? = some y
  stop i H := ∃ xs ys : List V, SqT K H a xs ∧ SqL K H b ys ∧ i = min xs.length ys.length
theorem turn_zipM {P : Program} {w : World} {K : PySem.W.Frag} {elts : List Expr} {kk : Nat} {tpos : Pos} {a b z TI TO i1 i2 : Addr} (S : ZipSep2 z TI TO i1 i2 [i1, a] [i2, b]) (n1 : a ≠ i1) (n2 : b ≠ i2) :
    Turn P w K (.Tuple elts kk tpos) (ItzM K a b) [z, TI, TO, i1, i2] z (fun i h => IsZip h z TI TO .none ∧ IsTupOf2 h TI (.ref i1) (.ref i2) ∧ (∃ x y, IsTupOf2 h TO x y) ∧ h.IsTupleIter i1 a i ∧ h.IsListIter i2 b i) :=
  turn_by List.mem_cons_self
    (fun i h st => by
      obtain ⟨hz, hi, ⟨x, y, ho⟩, ⟨o1, g1, _, d1⟩, o2, g2, _, d2⟩ := st
      simp only [List.forall_mem_cons]
      exact ⟨⟨_, hz, nodata rfl⟩, ⟨_, hi, fun v e => nomatch e⟩, ⟨_, ho, fun v e => nomatch e⟩, ⟨o1, g1, nodata d1⟩, ⟨o2, g2, nodata d2⟩, fun c hc => nomatch hc⟩)
    (fun i h h' st k => by
      simp only [List.forall_mem_cons] at k
      obtain ⟨k1, k2, k3, k4, k5, _⟩ := k
      exact ⟨k1 _ st.1, k2 _ st.2.1, st.2.2.1.imp fun x => Exists.imp fun y ho => k3 _ ho, st.2.2.2.1.at k4, st.2.2.2.2.at k5⟩)
    (fun A i s Q E st q => wpAny_pyIter_zip st.1 q)
    fun X e1 e2 e3 hc i pins σ H s I st gs => by
      subst e1 e2 e3
      have ex : ∃ xs ys, SqT X.K H a xs ∧ SqL X.K H b ys := gs.elim (fun ⟨xs, ys, _, _, h1, h2, _⟩ => ⟨xs, ys, h1, h2⟩) fun ⟨xs, ys, h1, h2, _⟩ => ⟨xs, ys, h1, h2⟩
      obtain ⟨xs, ys, q1, q2⟩ := ex
      obtain ⟨its, r1, isT, _⟩ := I.tuple q1
      obtain ⟨jts, r2, isL, _⟩ := I.list q2
      have len1 := r1.length
      have len2 := r2.length
      refine ⟨_, _, _, _, _, _, PySem.WalksT.zipD2 S (Draws.tuple (calm_in I hc) i1 a n1 its.toArray) (Draws.list (calm_in I hc) i2 b n2 jts.toArray), fun c hc' => ?_, ⟨st.1, st.2.1, st.2.2.1, ⟨st.2.2.2.1, isT⟩, st.2.2.2.2, isL.isList⟩, fun j k y => ⟨y.1, y.2.1, y.2.2.1, y.2.2.2.1.1, y.2.2.2.2.1⟩, fun ⟨us, vs, x, y, p1, p2, hx, hy⟩ => ?_, fun ⟨us, vs, p1, p2, hl⟩ => ?_⟩
      · simp only [List.mem_cons, List.not_mem_nil, or_false] at hc' ⊢
        rcases hc' with h | h | h | h
        · exact .inl h
        · exact .inr (.inr (.inl h))
        · exact .inr (.inr (.inr (.inl h)))
        · exact .inr (.inr (.inr (.inr h)))
      · rw [I.tuple_inj p1 q1] at hx
        rw [I.list_inj p2 q2] at hy
        obtain ⟨u, hu, ru⟩ := r1.get hx
        obtain ⟨v, hv, rv⟩ := r2.get hy
        have b1 := (List.getElem?_eq_some_iff.mp hu).1
        have b2 := (List.getElem?_eq_some_iff.mp hv).1
        refine ⟨by rw [List.size_toArray, List.size_toArray]; omega, fun vals ⟨c1, c2, g1, g2, ev⟩ => ⟨[x, y], by show 2 ≤ sizeLine; decide, ?_, fun T hT => ⟨T, x, y, rfl, hT, rfl, fun l hl => by rw [I.tuple_inj hl q1]; exact hx, fun l hl => by rw [I.list_inj hl q2]; exact hy⟩⟩⟩
        rw [ev, at_arr hu g1, at_arr hv g2]
        exact .cons ru (.cons rv .nil)
      · rw [I.tuple_inj p1 q1, I.list_inj p2 q2] at hl
        rw [its.size_toArray, jts.size_toArray]
        omega
def iZipM (K : PySem.W.Frag) (ta : TA) : TI := fun σ H R => ta σ H fun vs H1 => ∃ a b xs ys, vs = [.ref a, .ref b] ∧ SqT K H1 a xs ∧ SqL K H1 b ys ∧ R (ItzM K a b) H1
theorem vals_ref2 {a b : Addr} {us : List Value} (r : Vals [.ref a, .ref b] us) : us = [.ref a, .ref b] := by
  cases r with
  | cons h1 h2 =>
    cases h1
    rw [Vals.ref1 h2]
theorem pi_zipM {X : Cx} {e f : Expr} {ta : TA} {p pos tpos : Pos} {elts : List Expr} {kk : Nat} (hg : Gl X "zip") (hm : X.mg "zip" = none) (ha : PA X [e, f] ta)
    (hs : starEach [e, f] X.env = (false, eval e X.env) :: starEach [f] X.env := by rfl) (hpl : (backTo pos (starEach [f] X.env)).any (·.1) = false := by rfl) :
    PI X (.Tuple elts kk tpos) (.Call (.Name "zip" p) [e, f] [] pos) (iZipM X.K ta) where
  run pins s σ H R I h := PyProof.Rows.Call_ (ld_blt I hg hm PyProof.Rows.boot_zip (PyProof.Rows.callWith_type1 (thn (ha.run pos pins s σ H _ I h) fun us s1 ⟨vs, H1, I1, r1, got⟩ => by
    obtain ⟨a, b, xs, ys, rfl, q1, q2, hr⟩ := got
    rw [vals_ref2 r1]
    obtain ⟨its, _, isT, _⟩ := I1.tuple q1
    obtain ⟨jts, _, isL, _⟩ := I1.list q2
    have lta : a < s1.heap.objs.size := by
      obtain ⟨o, ho, _⟩ := id isT
      exact Heap.lt_size ho
    have ltb : b < s1.heap.objs.size := isL.lt
    refine zip_begins2 (begins_tuple a its.toArray) (begins_list b jts.toArray) isT isL.isList fun h1 hz hi ho g1 g2 _ grown => wpAny_pyIter_zip hz (pie_new I1 grown
      (turn_zipM (zip_sep2 (N := s1.heap.objs.size) (fp1 := [a]) (fp2 := [b]) (fun c hc => List.mem_singleton.mp hc ▸ lta) fun c hc => List.mem_singleton.mp hc ▸ ltb) (Nat.ne_of_lt lta) (Nat.ne_of_lt (Nat.lt_succ_of_lt ltb)))
      ⟨hz, hi, ⟨_, _, ho⟩, ⟨_, g1, rfl, rfl⟩, _, g2, rfl, rfl⟩ ?_ hr)
    simp only [List.forall_mem_cons]
    exact ⟨Nat.le_add_right _ _, Nat.le_add_right _ _, Nat.le_add_right _ _, Nat.le_refl _, Nat.le_add_right _ _, fun c hc => nomatch hc⟩) hs hpl))
theorem walk_zipM {K : PySem.W.Frag} {a b : Addr} {xs ys : List V} (hl : xs.length = ys.length) : L2.Walk (ItzM K a b) xs.length (fun H => SqT K H a xs ∧ SqL K H b ys) (YPair (fun i => xs[i]?) (fun i => ys[i]?)) :=
  ⟨fun i _ hi q => ⟨xs, ys, _, _, q.1, q.2, List.getElem?_eq_getElem hi, List.getElem?_eq_getElem (hl ▸ hi)⟩, fun _ q => ⟨xs, ys, q.1, q.2, by omega⟩,
    fun i H v H' _ q ⟨T, x, y, e1, e2, e3, e4, e5⟩ => ⟨T, x, y, e1, e2, e3, e4 xs q.1, e5 ys q.2⟩⟩

/-! #### sum(tuple), min(data) -/
theorem items_of : ∀ {its : List Value} {ns : List Int}, PyProof.Rows.IntsAre its ns → ∃ ps : List (Int × Tok), its.toArray = intItems ps.toArray ∧ ps.map (·.1) = ns
  | _, _, .nil => ⟨[], by simp [intItems], rfl⟩
  | _, _, .cons i t h => by
    obtain ⟨ps, e1, e2⟩ := items_of h
    refine ⟨(i, t) :: ps, ?_, by rw [List.map_cons, e2]⟩
    have z := congrArg Array.toList e1
    simp [intItems] at z ⊢
    exact z
section
variable {X : Cx}
def rSumT (K : PySem.W.Frag) : List V → Hp → VK → Prop := fun vs H Q => ∃ (a : Addr) (ns : List Int), vs = [V.ref a] ∧ SqT K H a (ns.map V.int) ∧ Q (.int ns.sum) H
theorem cr_sumT (hc : X.calm = true) : CallR X (.builtin "sum") (rSumT X.K) := fun pins s σ H vs us Q I r h => by
  obtain ⟨a, ns, rfl, hq, done⟩ := h
  obtain ⟨its, rv, isT, _⟩ := I.tuple hq
  obtain ⟨ps, e1, e2⟩ := items_of rv.ints
  have isT' : s.heap.IsTuple a its.toArray := isT
  rw [e1] at isT'
  rw [Vals.ref1 r]
  refine PySem.W.ktm_sumG (I.ok.hd hc) isT' fun h1 tk t grown => ⟨.int ns.sum, H, I.kept grown, ?_, done⟩
  have z : preSum (numAt ps.toArray) ps.toArray.size = ns.sum := by
    have e3 : ps.toArray.size = (ps.toArray.toList.map (·.1)).length := by simp
    rw [preSum_eq, e3, List.take_length]
    exact congrArg List.sum e2
  rw [z]
  exact ⟨t, rfl⟩
def rMinD (α : Type) [DecidableEq α] [PySem.W.DatumOrd α] (K : PySem.W.Frag) : List V → Hp → VK → Prop := fun vs H Q => ∃ (v : V) (x : α) (l : List α), vs = [v] ∧ Dp K H v (.list ((x :: l).map PySem.W.Datum.toD)) ∧
  ∀ u, Dp K H u (PySem.W.Datum.toD (PySem.W.minOf x l)) → Q u H
theorem vals_back {xs : List V} {us : List Value} {i : Nat} {u : Value} (r : Vals xs us) (e : us[i]? = some u) : ∃ x, xs[i]? = some x ∧ RelV x u := by
  have lt := (List.getElem?_eq_some_iff.mp e).1
  rw [← r.length] at lt
  obtain ⟨v, hv, rel⟩ := r.get (List.getElem?_eq_getElem lt)
  rw [e] at hv
  exact ⟨_, List.getElem?_eq_getElem lt, Option.some.inj hv ▸ rel⟩
/-- min by data, the item itself -/
theorem cr_minD {α : Type} [DecidableEq α] [PySem.W.DatumOrd α] (hc : X.calm = true) (hu : X.A.units + 1 + PySem.W.Datum.depth α < cLine) : CallR X (.builtin "min") (rMinD α X.K) := fun pins s σ H vs us Q I r h => by
  obtain ⟨v, x, l, rfl, hv, done⟩ := h
  obtain ⟨a, ws, rfl, hq, hall⟩ := dp_lst hv
  obtain ⟨its, rv, isL, _⟩ := I.list hq
  obtain ⟨as, reads⟩ := Dp.readsAll I _ ws its hall rv
  rw [Vals.ref1 r]
  refine PySem.W.min_list_datum (x := x) (xs := l) (I.ok.hd hc) isL.isList ⟨as, reads⟩ hu fun i u h1 tk hi ⟨bs, least⟩ grown => ?_
  rw [List.getElem?_toArray] at hi
  obtain ⟨y, hy, rel⟩ := vals_back rv hi
  obtain ⟨d, _, dy⟩ := dps_get' hall hy
  obtain ⟨cs, ry⟩ := Dp.reads I d y u dy rel
  have same := (PyProof.Rows.reads_det (fun b o e _ => grown b o e) ry least).1
  exact ⟨y, H, I.kept grown, rel, done y (by rw [same]; exact dy)⟩
end
end K7
/-! ### part M: webs, walks, distances -/
namespace K7
abbrev Road := Nat × Nat × Int
inductive Walk (R : List Road) : Nat → Nat → Int → Prop
  | nil (i : Nat) : Walk R i i 0
  | cons {i x j : Nat} {l L : Int} : (i, x, l) ∈ R → Walk R x j L → Walk R i j (l + L)
/-- a one-way web of n points with its distances d -/
structure Web (n : Nat) (ws : List Int) (R : List Road) (d : Nat → Nat → Int) : Prop where
  n2 : 2 ≤ n
  n6 : n ≤ 6
  wl : ws.length = n
  w0 : ∀ x ∈ ws, 0 ≤ x ∧ x ≤ 100
  wsum : 0 < ws.sum
  rl : R.length ≤ 20
  rd : ∀ r ∈ R, r.1 < n ∧ r.2.1 < n ∧ r.1 ≠ r.2.1 ∧ 1 ≤ r.2.2 ∧ r.2.2 ≤ 100
  nd : (R.map fun r => (r.1, r.2.1)).Nodup
  con : ∀ i j, i < n → j < n → ∃ L, Walk R i j L ∧ L ≤ (R.map (·.2.2)).sum
  dw : ∀ i j, i < n → j < n → Walk R i j (d i j)
  dl : ∀ i j L, i < n → j < n → Walk R i j L → d i j ≤ L
end K7
/-! ### part C: the same rules told by data -/
namespace K7
open PySem L2
section
variable {K : PySem.W.Frag} {σ : St} {H H' : Hp} {ta tb tc te : TE} {t u : TT} {d d1 d2 d3 : PyData} {ds es : List PyData} {P P' : V → Hp → Prop}
theorem rc_sumT {ns : List Int} : RCD K (rSumT K) [.tuple (ns.map .int)] (.int ns.sum) := fun H1 vs hv Q q => by
  cases hv with
  | cons h1 h2 =>
    cases h2
    obtain ⟨a, xs, rfl, hs, hall⟩ := dp_tup h1
    rw [dps_ints hall] at hs
    exact ⟨a, ns, rfl, hs, q _ H1 (Same.refl _) (.int _)⟩
theorem rc_minD {α : Type} [DecidableEq α] [PySem.W.DatumOrd α] {x : α} {l : List α} (e : ds = (x :: l).map PySem.W.Datum.toD) : RCD K (rMinD α K) [.list ds] (PySem.W.Datum.toD (PySem.W.minOf x l)) := fun H1 vs hv Q q => by
  cases hv with
  | cons h1 h2 =>
    cases h2
    subst e
    exact ⟨_, x, l, rfl, h1, fun u hu => q u H1 (Same.refl _) hu⟩
/-! enumerate, zip -/
def enumD (ds : List PyData) : List PyData := (List.range ds.length).map fun i => .tuple [.int (i : Nat), ds.getD i .none]
theorem enumD_len : (enumD ds).length = ds.length := by unfold enumD; rw [List.length_map, List.length_range]
theorem getD_of {l : List PyData} {i : Nat} {d : PyData} (h : l[i]? = some d) : l.getD i .none = d := by rw [List.getD_eq_getElem?_getD, h] <;> rfl
theorem enumD_get {i : Nat} {d : PyData} (h : ds[i]? = some d) : (enumD ds)[i]? = some (.tuple [.int (i : Nat), d]) := by
  have hi := (List.getElem?_eq_some_iff.mp h).1
  unfold enumD
  rw [List.getElem?_map, List.getElem?_range hi, Option.map_some, getD_of h]
theorem enumD_get' {i : Nat} {e : PyData} (h : (enumD ds)[i]? = some e) : ∃ d, ds[i]? = some d ∧ e = .tuple [.int (i : Nat), d] := by
  have hi := (List.getElem?_eq_some_iff.mp h).1
  rw [enumD_len] at hi
  have hd := List.getElem?_eq_getElem hi
  rw [enumD_get hd] at h
  exact ⟨_, hd, (Option.some.inj h).symm⟩
theorem ei_enumT {ta : TA} (h : EvA K ta σ H [.tuple ds]) : EvI K (iEnumT K ta) σ H (enumD ds) := fun H1 e R q => h H1 e _ fun vs H2 e2 ps => by
  cases ps with
  | cons p1 p2 =>
    cases p2
    obtain ⟨a, xs, rfl, hs, hall⟩ := dp_tup p1
    have hl : xs.length = (enumD ds).length := (dps_len hall).trans enumD_len.symm
    refine ⟨a, xs, rfl, hs, ?_⟩
    refine q (IteT K a) (fun H => SqT K H a xs) (YPair (fun i => some (.int (i : Nat))) (fun i => xs[i]?)) H2 e2 (by rw [← hl]; exact walk_enumT) (fun H' a => same_tup a hs) fun j x Ha Hb hj a y => ?_
    obtain ⟨T, x1, x2, rfl, hT, rfl, e1, e2'⟩ := y
    cases e1
    obtain ⟨d, h1, h2⟩ := dps_get' hall e2'
    have sn : Same Ha (upd Ha T (.tup [.int (j : Nat), x2])) := same_new hT
    exact ⟨sn, _, enumD_get h1, .tup (SqT.of upd_same) (.cons (.int _) (.cons (dp_same (a.trans sn) _ _ h2) .nil))⟩
def zipD (ds es : List PyData) : List PyData := (List.range ds.length).map fun i => .tuple [ds.getD i .none, es.getD i .none]
theorem zipD_len : (zipD ds es).length = ds.length := by unfold zipD; rw [List.length_map, List.length_range]
theorem zipD_get {i : Nat} {d e : PyData} (h : ds[i]? = some d) (h2 : es[i]? = some e) : (zipD ds es)[i]? = some (.tuple [d, e]) := by
  have hi := (List.getElem?_eq_some_iff.mp h).1
  unfold zipD
  rw [List.getElem?_map, List.getElem?_range hi, Option.map_some, getD_of h, getD_of h2]
theorem ei_zipM {ta : TA} (h : EvA K ta σ H [.tuple ds, .list es]) (hl : ds.length = es.length) : EvI K (iZipM K ta) σ H (zipD ds es) := fun H1 e R q => h H1 e _ fun vs H2 e2 ps => by
  cases ps with
  | cons p1 p2 =>
    cases p2 with
    | cons p2 p3 =>
      cases p3
      obtain ⟨a, xs, rfl, hs, hall⟩ := dp_tup p1
      obtain ⟨b, ys, rfl, hs2, hall2⟩ := dp_lst p2
      have hl1 : xs.length = (zipD ds es).length := (dps_len hall).trans zipD_len.symm
      have hl2 : xs.length = ys.length := by rw [dps_len hall, dps_len hall2, hl]
      refine ⟨a, b, xs, ys, rfl, hs, hs2, ?_⟩
      refine q (ItzM K a b) (fun H => SqT K H a xs ∧ SqL K H b ys) (YPair (fun i => xs[i]?) (fun i => ys[i]?)) H2 e2 (by rw [← hl1]; exact walk_zipM hl2) (fun H' a => ⟨same_tup a hs, a.seq hs2⟩) fun j x Ha Hb hj a y => ?_
      obtain ⟨T, x1, x2, rfl, hT, rfl, e1, e2'⟩ := y
      obtain ⟨d, h1, h2⟩ := dps_get' hall e1
      obtain ⟨d', h1', h2'⟩ := dps_get' hall2 e2'
      have sn : Same Ha (upd Ha T (.tup [x1, x2])) := same_new hT
      exact ⟨sn, _, zipD_get h1 h1', .tup (SqT.of upd_same) (.cons (dp_same (a.trans sn) _ _ h2) (.cons (dp_same (a.trans sn) _ _ h2') .nil))⟩
/-- a comprehension over range(n) -/
theorem em_lcR {ta : TA} {n j : Nat} {vs : List Nat} (h : EvA K ta σ H [.int (n : Int)]) (hn : n ≤ 10000000) (f : Nat → Bool) (v : Nat → PyData) (hw : ∀ x, wipe ((wipe σ vs).set j (some x)) vs = wipe σ vs) (htd : ∀ j, j < n → f j = true → TD (v j) = true)
    (hs : ∀ (i : Nat) H1, i < n → Same H H1 → EvB t ((wipe σ vs).set j (some (.int (i : Int)))) H1 (f i) ∧ (f i = true → EvD K te ((wipe σ vs).set j (some (.int (i : Int)))) H1 (v i))) :
    EvM K (tLc (iRng1 ta) (gName j) t te vs) σ H (givenD n f v) := by
  have e : givenD n f v = givenD (rngD 0 n).length f v := by rw [rngD_len]
  rw [e]
  refine em_lcN (ei_rng1 h (by omega)).i f v hw (by rw [rngD_len]; exact hn) (fun j hj => htd j (by rw [rngD_len] at hj; exact hj)) fun i d x H1 hd e1 hx => ?_
  obtain ⟨hi, rfl⟩ := rngD_get' hd
  have e0 : (0 : Int) + (i : Int) = (i : Int) := Int.zero_add (i : Int)
  rw [e0] at hx
  rw [dp_int hx]
  exact hs i H1 hi e1
/-! slices -/
def cutL {α : Type} (xs : List α) (lo hi : Option Int) : List α := (xs.drop (HT.sIx xs.length 0 lo)).take (HT.sIx xs.length xs.length hi - HT.sIx xs.length 0 lo)
def EvO (to : TO) (σ : St) (H : Hp) (o : Option Int) : Prop := ∀ H1, Same H H1 → ∀ Q : Option Int → Hp → Prop, (∀ H2, Same H1 H2 → Q o H2) → to σ H1 Q
theorem eo_none : EvO tNoPart σ H none := fun H1 _ _ q => q H1 (Same.refl _)
theorem eo_some {i : Int} (h : EvD K te σ H (.int i)) : EvO (tPart te) σ H (some i) := fun H1 e _ q => h H1 e _ fun v H2 e2 p => ⟨i, dp_int p, q H2 e2⟩
theorem cutD_all {vs : List V} {lo hi : Option Int} (h : DpAll K H vs ds) : DpAll K H (cutV vs lo hi) (cutL ds lo hi) := by
  unfold cutV cutL
  rw [dps_len h]
  exact dps_take _ (dps_drop _ h)
theorem cutL_whole {α : Type} {xs : List α} {lo hi : Option Int} (h : HT.sIx xs.length 0 lo = 0 ∧ HT.sIx xs.length xs.length hi = xs.length) : cutL xs lo hi = xs := by
  unfold cutL
  rw [h.1, h.2]
  simp
theorem ed_slT {tl th : TO} {lo hi : Option Int} (h : EvD K te σ H (.tuple ds)) (h1 : EvO tl σ H lo) (h2 : EvO th σ H hi) : EvD K (tSl (rSlA K) te tl th) σ H (.tuple (cutL ds lo hi)) := fun H1 e Q q =>
  h H1 e _ fun v H2 e2 p => h1 H2 (e.trans e2) _ fun H3 e3 => h2 H3 ((e.trans e2).trans e3) _ fun H4 e4 => by
    obtain ⟨a, xs, rfl, hs, hall⟩ := dp_tup p
    have hs4 := same_tup (e3.trans e4) hs
    have hall4 := dps_same (e3.trans e4) _ _ hall
    refine ⟨a, xs, rfl, hs4, fun hw => ?_, fun _ p hp => ?_⟩
    · rw [dps_len hall] at hw
      rw [cutL_whole hw] at q
      exact q _ H4 ((e2.trans e3).trans e4) (.tup hs4 hall4)
    · exact q _ _ (((e2.trans e3).trans e4).trans (same_new hp)) (.tup (SqT.of upd_same) (dps_same (same_new hp) _ _ (cutD_all hall4)))
theorem em_slL {tl th : TO} {lo hi : Option Int} (h : EvD K te σ H (.list ds)) (h1 : EvO tl σ H lo) (h2 : EvO th σ H hi) : EvM K (tSl (rSlL K) te tl th) σ H (cutL ds lo hi) := fun H1 e Q q =>
  h H1 e _ fun v H2 e2 p => h1 H2 (e.trans e2) _ fun H3 e3 => h2 H3 ((e.trans e2).trans e3) _ fun H4 e4 => by
    obtain ⟨a, xs, rfl, hs, hall⟩ := dp_lst p
    refine ⟨a, xs, rfl, (e3.trans e4).seq hs, fun p hp => ?_⟩
    exact q _ _ (((e2.trans e3).trans e4).trans (same_new hp)) ⟨p, _, rfl, upd_same, dps_same (same_new hp) _ _ (cutD_all (dps_same (e3.trans e4) _ _ hall))⟩
/-! isinstance -/
def tyD : PyData → String
  | .none => "NoneType"
  | .bool _ => "bool"
  | .int _ => "int"
  | .str _ => "str"
  | .list _ => "list"
  | .tuple _ => "tuple"
  | .dict _ => "dict"
theorem dp_ty {v : V} (h : Dp K H v d) : TyX K H v (.type (tyD d)) := by
  cases h with
  | non => exact .base .non
  | bl b => exact .base (.bl b)
  | int i => exact .base (.int i)
  | str x => exact .base (.str x)
  | lst hs _ =>
    rcases hs with (e | ⟨o, e⟩) | ⟨o, its, n, e, c, _⟩
    · exact .base (.lst e)
    · exact .base (.frz e)
    · exact .kList e c
  | tup hs _ =>
    rcases hs with (e | ⟨o, e⟩) | ⟨o, its, n, e, c, _⟩
    · exact .base (.tup e)
    · exact .fTuple e
    · exact .kTuple e c
theorem ed_isi {n : String} {b : Bool} (h : EvD K te σ H d) (hb : kitB (tyD d) n = some b) : EvD K (tCB (rIsi K) (tCons te (tCons (tC (.ty n)) tNil))) σ H (.bool b) := fun H1 e Q q =>
  h H1 e _ fun v H2 e2 p => ⟨v, .ty n, .type (tyD d), .type n, b, rfl, .ty n, dp_ty p, kit_ty hb, q _ H2 e2 (.bl b)⟩
theorem ed_isiT {n m : String} {a b : Bool} (h : EvD K te σ H d) (ha : kitB (tyD d) n = some a) (hb : kitB (tyD d) m = some b) :
    EvD K (tCB (rIsiT K) (tCons te (tCons (tTup (tCons (tC (.ty n)) (tCons (tC (.ty m)) tNil))) tNil))) σ H (.bool (a || b)) := fun H1 e Q q =>
  h H1 e _ fun v H2 e2 p => ⟨by show 2 ≤ sizeLine; decide, fun tp hp => ⟨v, tp, [.ty n, .ty m], .type (tyD d), [.type n, .type m], a || b, rfl, upd_same, .cons (.ty n) (.cons (.ty m) .nil), dp_ty (dp_same (same_new hp) _ _ p), (by
    refine kitAny_cons (kit_ty ha) (fun z => ?_) (fun z => by rw [z]; rfl)
    refine kitAny_cons (kit_ty hb) (fun z2 => ?_) (fun z2 => by rw [z, z2]; rfl)
    rw [z, z2]
    exact kitAny_nil), q _ _ (e2.trans (same_new hp)) (.bl _)⟩⟩
/-! sorted(set(t)) -/
def rSetT (K : PySem.W.Frag) (w : World) : List V → Hp → VK → Prop := fun vs H Q => ∃ (a : Addr) (ns : List Int), vs = [V.ref a] ∧ SqT K H a (ns.map V.int) ∧ ns.length < 64 ∧
  ∀ p n, H p = none → n ≤ ns.length → Q (.ref p) (upd H p (SetO w p (fun j => decide (j ∈ ns)) n))
end
theorem cr_setT {X : Cx} (hc : X.calm = true) : CallR X (.type "set") (rSetT X.K X.w) := by
  intro pins s σ H vs us Q I r given
  obtain ⟨a, ns, rfl, hs, h64, q⟩ := given
  obtain ⟨its, rv, pt, _⟩ := I.tuple hs
  rw [Vals.ref1 r]
  refine call_set_tupI ns (I.ok.hd hc) (show s.heap.IsTuple a its.toArray from pt) (by simpa using rv.ints) (by show ns.length + 1 < 4096; omega) fun h' tk c R1 hcn k => ?_
  exact ⟨.ref _, upd H s.heap.objs.size (SetO X.w s.heap.objs.size (fun j => decide (j ∈ ns)) c), I.laid (t' := tk) k (Nat.le_refl _) (setO_new R1), rfl, q _ c (I.hok.fresh (Nat.le_refl _)) hcn⟩
/-- two rising lists of the same numbers -/
theorem rising_eq : ∀ {xs ys : List Int}, xs.Pairwise (· < ·) → ys.Pairwise (· < ·) → (∀ k, k ∈ xs ↔ k ∈ ys) → xs = ys
  | [], [], _, _, _ => rfl
  | [], y :: ys, _, _, h => absurd ((h y).mpr List.mem_cons_self) (by simp)
  | x :: xs, [], _, _, h => absurd ((h x).mp List.mem_cons_self) (by simp)
  | x :: xs, y :: ys, hx, hy, h => by
    have hx1 := List.pairwise_cons.mp hx
    have hy1 := List.pairwise_cons.mp hy
    have e : x = y := by
      rcases List.mem_cons.mp ((h x).mp List.mem_cons_self) with e | m1
      · exact e
      · rcases List.mem_cons.mp ((h y).mpr List.mem_cons_self) with e | m2
        · exact e.symm
        · have q1 := hy1.1 x m1
          have q2 := hx1.1 y m2
          omega
    subst e
    refine congrArg (x :: ·) (rising_eq hx1.2 hy1.2 fun k => ⟨fun m => ?_, fun m => ?_⟩)
    · rcases List.mem_cons.mp ((h k).mp (List.mem_cons_of_mem _ m)) with e | m2
      · subst e
        exact absurd (hx1.1 k m) (Int.lt_irrefl _)
      · exact m2
    · rcases List.mem_cons.mp ((h k).mpr (List.mem_cons_of_mem _ m)) with e | m2
      · subst e
        exact absurd (hy1.1 k m) (Int.lt_irrefl _)
      · exact m2
theorem em_sortedSet {K : PySem.W.Frag} {w : World} {σ : St} {H : Hp} {te : TE} {ns : List Int} (h : EvD K te σ H (.tuple (ns.map .int))) (hr : ns.Pairwise (· < ·)) (hl : ns.length < 64) :
    EvM K (tCB (rSortedSet w) (tCons (tCB (rSetT K w) (tCons te tNil)) tNil)) σ H (ns.map .int) := fun H1 e Q q =>
  h H1 e _ fun v H2 e2 p => by
    obtain ⟨a, xs, rfl, hs, hall⟩ := dp_tup p
    rw [dps_ints hall] at hs
    refine ⟨a, ns, rfl, hs, hl, fun s n hsn hn => ⟨s, _, n, rfl, upd_same, by omega, fun ms p2 hm hmem _ hp => ?_⟩⟩
    have em : ms = ns := rising_eq hm hr fun k => (hmem k).trans decide_eq_true_iff
    subst em
    exact q _ _ ((e2.trans (same_new hsn)).trans (same_new hp)) ⟨p2, _, rfl, upd_same, dps_of_ints _⟩
end K7
/-! ### part D: the text by places, the small defs -/
namespace K7
open PySem L2
def topS (i : Nat) : Stmt := PySem.Challenge.pw_nearhouses_k78_whole_best_rounds.main.body.getD i (.Pass ⟨0, 0, 0, 0⟩)
abbrev s_isin : Stmt := topS 7
abbrev s_isw : Stmt := topS 12
abbrev s_nh : Stmt := topS 14
abbrev s_mem : Stmt := topS 16
abbrev s_nc : Stmt := topS 18
abbrev s_way : Stmt := topS 21
abbrev s_rt : Stmt := topS 22
abbrev s_now : Stmt := topS 23
abbrev s_lt : Stmt := topS 24
abbrev s_bo : Stmt := topS 25
abbrev s_bi : Stmt := topS 26
abbrev s_ri : Stmt := topS 27
abbrev s_rs : Stmt := topS 28
abbrev s_br : Stmt := topS 29
abbrev s_rr : Stmt := topS 30
abbrev s_ro : Stmt := topS 31
abbrev s_aw : Stmt := topS 32
abbrev s_tk : Stmt := topS 34
abbrev s_or : Stmt := topS 35
abbrev s_pk : Stmt := topS 36
abbrev s_ow : Stmt := topS 37
abbrev s_lr : Stmt := topS 38
abbrev s_se : Stmt := topS 39
abbrev s_al : Stmt := topS 40
abbrev s_law : Stmt := topS 41
/-! the rules whose reading speaks of the written part, the part given by name (a comprehension's block hides it else) -/
section
variable {X : Cx}
theorem k_ixT (K : PySem.W.Frag) (h : X.K = K := by rfl) : IxR X (rIxT K) := by subst h; exact ix_tup
theorem k_ixL (K : PySem.W.Frag) (h : X.K = K := by rfl) : IxR X (rIxL K) := by subst h; exact ix_list
theorem k_slT (K : PySem.W.Frag) (h : X.K = K := by rfl) : SlR X (rSlA K) := by subst h; exact sl_tupA
theorem k_slL (K : PySem.W.Frag) (h : X.K = K := by rfl) : SlR X (rSlL K) := by subst h; exact sl_list
def rLenK (K : PySem.W.Frag) : List V → Hp → VK → Prop := fun xs H Q => ∃ p ys, xs = [.ref p] ∧ (SqL K H p ys ∨ SqT K H p ys) ∧ Q (.int ys.length) H
theorem k_len (K : PySem.W.Frag) (h : X.K = K := by rfl) : CallR X (.builtin "len") (rLenK K) := by subst h; exact call_len_seq
def rListK (K : PySem.W.Frag) : List V → Hp → VK → Prop := fun xs H Q => ∃ p ys, xs = [.ref p] ∧ (SqL K H p ys ∨ SqT K H p ys) ∧ ∀ l, H l = none → Q (.ref l) (upd H l (.lst ys))
theorem k_list (K : PySem.W.Frag) (h : X.K = K := by rfl) : CallR X (.type "list") (rListK K) := by subst h; exact call_list_of
def rTupK (K : PySem.W.Frag) : List V → Hp → VK → Prop := fun xs H Q => ∃ p ys, xs = [.ref p] ∧ ((SqL K H p ys ∧ ∀ l, H l = none → Q (.ref l) (upd H l (.tup ys))) ∨ (SqT K H p ys ∧ Q (.ref p) H))
theorem k_tuple (K : PySem.W.Frag) (h : X.K = K := by rfl) : CallR X (.type "tuple") (rTupK K) := by subst h; exact call_tuple_of
theorem k_sum (K : PySem.W.Frag) (h : X.K = K := by rfl) (hc : X.calm = true := by rfl) : CallR X (.builtin "sum") (rSum K) := by subst h; exact cr_sum hc
theorem k_sumT (K : PySem.W.Frag) (h : X.K = K := by rfl) (hc : X.calm = true := by rfl) : CallR X (.builtin "sum") (rSumT K) := by subst h; exact cr_sumT hc
theorem k_min (K : PySem.W.Frag) (h : X.K = K := by rfl) (hc : X.calm = true := by rfl) : CallR X (.builtin "min") (rMin K) := by subst h; exact cr_min hc
def rMin2 : List V → Hp → VK → Prop := fun xs H Q => ∃ i j, xs = [.int i, .int j] ∧ Q (.int (if j < i then j else i)) H
theorem k_min2 (hc : X.calm = true := by rfl) : CallR X (.builtin "min") rMin2 := call_min2 hc
def rIntK : List V → Hp → VK → Prop := fun xs H Q => (∃ i, xs = [.int i] ∧ Q (.int i) H) ∨ ∃ k, xs = [.bl k] ∧ Q (.int (if k then 1 else 0)) H
theorem k_int : CallR X (.type "int") rIntK := call_int1
theorem k_minD (α : Type) [DecidableEq α] [PySem.W.DatumOrd α] (K : PySem.W.Frag) (hu : X.A.units + 1 + PySem.W.Datum.depth α < cLine) (h : X.K = K := by rfl) (hc : X.calm = true := by rfl) : CallR X (.builtin "min") (rMinD α K) := by subst h; exact cr_minD hc hu
theorem k_isi (K : PySem.W.Frag) (h : X.K = K := by rfl) : CallR X (.builtin "isinstance") (rIsi K) := by subst h; exact call_isi
theorem k_isiT (K : PySem.W.Frag) (h : X.K = K := by rfl) : CallR X (.builtin "isinstance") (rIsiT K) := by subst h; exact call_isiT
theorem k_in (K : PySem.W.Frag) (h : X.K = K := by rfl) : OpR X (compareOp .In) (rIn K false) := by subst h; exact op_in_seq
theorem k_eqD (K : PySem.W.Frag) (hu : X.A.units + 64 < cLine) (h : X.K = K := by rfl) : OpR X (compareOp .Eq) (rEqD K) := by subst h; exact op_eqD hu
theorem k_neD (K : PySem.W.Frag) (hu : X.A.units + 64 < cLine) (h : X.K = K := by rfl) : OpR X (compareOp .NotEq) (rNeD K) := by subst h; exact op_neD hu
theorem k_inD (K : PySem.W.Frag) (hu : X.A.units + 65 < cLine) (h : X.K = K := by rfl) : OpR X (compareOp .In) (rInD K) := by subst h; exact op_inD hu
theorem k_notInD (K : PySem.W.Frag) (hu : X.A.units + 65 < cLine) (h : X.K = K := by rfl) : OpR X (compareOp .NotIn) (rNotInD K) := by subst h; exact op_notInD hu
theorem k_ltT (K : PySem.W.Frag) (hu : X.A.units < cLine) (h : X.K = K := by rfl) : OpR X (compareOp .Lt) (rLtT K) := by subst h; exact op_ltT hu
theorem k_catT (K : PySem.W.Frag) (h : X.K = K := by rfl) : OpR X (binaryOp .Add) (rCatA K) := by subst h; exact op_catA
theorem k_sortedSet (w : World) (h : X.w = w := by rfl) (hc : X.calm = true := by rfl) : CallR X (.builtin "sorted") (rSortedSet w) := by subst h; exact cr_sortedSet hc
theorem k_setT (K : PySem.W.Frag) (w : World) (h : X.K = K := by rfl) (h2 : X.w = w := by rfl) (hc : X.calm = true := by rfl) : CallR X (.type "set") (rSetT K w) := by subst h h2; exact cr_setT hc
def tTruK (K : PySem.W.Frag) (te : TE) : TT := fun σ H Q => te σ H fun x H' => ∃ k, TruV K x H' k ∧ Q k H'
theorem k_truth (K : PySem.W.Frag) {a : Expr} {ta : TE} (ha : PE X a ta) (he : ∀ whole, isTrue a X.env whole = (do let v ← whole; standAt a.pos; holding [v] (truthy v)) := by intro _; rfl) (h : X.K = K := by rfl) : PT X a (tTruK K ta) := by subst h; exact pt_truth ha he
theorem k_gtup (K : PySem.W.Frag) {es : List Expr} {k : Nat} {t : TGs} {n : Nat} {pos : Pos} (hg : PGs X es t) (hn : (assignEach es X.env).length = n := by rfl) (hst : (assignEach es X.env).findIdx? (·.1) = none := by rfl) (h : X.K = K := by rfl) (hc : X.calm = true := by rfl) : PG X (.Tuple es k pos) (gTup K n t) := by
  subst h
  exact pg_tup hc hg hn hst
theorem k_pizip (K : PySem.W.Frag) {e e2 : Expr} {ta : TA} {p pos tpos : Pos} {elts : List Expr} {kk : Nat} (hg : Gl X "zip") (hm : X.mg "zip" = none) (ha : PA X [e, e2] ta)
    (hs : starEach [e, e2] X.env = (false, eval e X.env) :: starEach [e2] X.env := by rfl) (hpl : (backTo pos (starEach [e2] X.env)).any (·.1) = false := by rfl) (h : X.K = K := by rfl) :
    PI X (.Tuple elts kk tpos) (.Call (.Name "zip" p) [e, e2] [] pos) (iZipM K ta) := by subst h; exact pi_zipM hg hm ha hs hpl
theorem k_pienum (K : PySem.W.Frag) {e : Expr} {ta : TA} {p pos tpos : Pos} {elts : List Expr} {kk : Nat} (hg : Gl X "enumerate") (hm : X.mg "enumerate" = none) (ha : PA X [e] ta) (hs : starEach [e] X.env = [(false, eval e X.env)] := by rfl) (h : X.K = K := by rfl) :
    PI X (.Tuple elts kk tpos) (.Call (.Name "enumerate" p) [e] [] pos) (iEnumT K ta) := by subst h; exact pi_enumT hg hm ha hs
theorem k_pilist (K : PySem.W.Frag) {tg l : Expr} {tl : TE} (hl : PE X l tl) (h : X.K = K := by rfl) : PI X tg l (iList K tl) := by subst h; exact pi_list hl
theorem k_pitup (K : PySem.W.Frag) {tg l : Expr} {tl : TE} (hl : PE X l tl) (h : X.K = K := by rfl) : PI X tg l (iTup K tl) := by subst h; exact pi_tup hl
end
/-- the module's names that are no defs -/
structure TB (mg : Str → Option Value) : Prop where
  isinstance : mg "isinstance" = none
  int : mg "int" = none
  bool : mg "bool" = none
  tuple : mg "tuple" = none
  list : mg "list" = none
  str : mg "str" = none
  set : mg "set" = none
  sorted : mg "sorted" = none
  len : mg "len" = none
  sum : mg "sum" = none
  min : mg "min" = none
  range : mg "range" = none
  enumerate : mg "enumerate" = none
  zip : mg "zip" = none
  c8 : ∃ t, mg "MOST_POINTS" = some (.int 8 t)
  cw : ∃ t, mg "MOST_WEIGHT" = some (.int 100 t)
  cl : ∃ t, mg "MOST_LENGTH" = some (.int 100 t)
  c20 : ∃ t, mg "MOST_WAYS" = some (.int 20 t)
/-- a def of the module that keeps its promise -/
structure Cal (P : Program) (w : World) (K : PySem.W.Frag) (mg : Str → Option Value) (base : Heap) (k : Nat) (x : Str) (ps : List Str) (sp : Sp) : Prop where
  ex : ∃ f fd, FnOk P w K mg base CX0 k f fd ps sp ∧ mg x = some (.ref f) ∧ PySem.W.keepIn K (.ref f) = true ∧ Binds K fd ps []
theorem pe_callC {X : Cx} {k : Nat} {x : Str} {ps : List Str} {sp : Sp} {p pos : Pos} {e : Expr} {es : List Expr} {t : TA} (C : Cal X.prog X.w X.K X.mg X.base k x ps sp) (hr : Room k X.A) (hg : Gl X x) (ha : PA X (e :: es) t)
    (notDebug : (x == ("__debug__" : Str)) = false := by decide) (first : starEach (e :: es) X.env = (false, eval e X.env) :: starEach es X.env := by rfl) (plain : (backTo pos (starEach es X.env)).any (·.1) = false := by rfl) :
    PE X (.Call (.Name x p) (e :: es) [] pos) (tCall sp [] E0 t) := by
  obtain ⟨f, fd, G, hm, hk, hb⟩ := C.ex
  exact pe_call G hr hg hm hk hb .nil pass0 ha notDebug first plain
/-- the def st stands at x -/
structure DefAt (K : PySem.W.Frag) (mg : Str → Option Value) (x : Str) (ps : List Str) (st : Stmt) : Prop where
  ex : ∃ f fd, Fun K x x st f fd ∧ mg x = some (.ref f) ∧ Binds K fd ps []
section
variable {P : Program} {w : World} {K : PySem.W.Frag} {mg : Str → Option Value} {base : Heap}
/-- THE RULE for a def -/
theorem DefAt.cal {x : Str} {ps N : List Str} {st : Stmt} {k : Nat} {sp : Sp} (D : DefAt K mg x ps st) (S : FnScope N ps (defScope st)) (len : ∀ vs H Q E, sp vs H Q E → vs.length = ps.length)
    (hbody : ∀ (f : Addr) (cdv : Value) (A : Around) (outer : List Env) (s : Shared) (H : Hp) (vs : List V) (Q : VK) (E : XK), Room k (A.deeper (PyProof.Rows.envOfC x (defScope st) s.heap.objs.size f cdv)) → sp vs H Q E →
      ∃ t, PSs (cxOf CX0 P w K mg base N x (defScope st) f cdv A outer s H E).nox (defBody st) t ∧ t { nx := fun _ H' => Q .non H', rt := Q } (start N vs) H) : Cal P w K mg base (k + 1) x ps sp := by
  obtain ⟨f, fd, F, hm, hb⟩ := D.ex
  exact ⟨f, fd, F.ok S len (hbody f), hm, F.kp, hb⟩
/-- data in, data out -/
def SpD (K : PySem.W.Frag) (R : List PyData → PyData → Prop) : Sp := fun vs H Q _ => ∃ ds r, DpAll K H vs ds ∧ R ds r ∧ ∀ v H', Same H H' → Dp K H' v r → Q v H'
/-- data in, a new list out -/
def SpM (K : PySem.W.Frag) (R : List PyData → List PyData → Prop) : Sp := fun vs H Q _ => ∃ ds r, DpAll K H vs ds ∧ R ds r ∧ ∀ v H', Same H H' → ML K H' v r → Q v H'
theorem SpD.len {R : List PyData → PyData → Prop} {n : Nat} (h : ∀ ds r, R ds r → ds.length = n) : ∀ vs H Q E, SpD K R vs H Q E → vs.length = n := fun vs H Q E z => by
  obtain ⟨ds, r, h1, h2, _⟩ := z
  rw [dps_len h1, h ds r h2]
theorem SpM.len {R : List PyData → List PyData → Prop} {n : Nat} (h : ∀ ds r, R ds r → ds.length = n) : ∀ vs H Q E, SpM K R vs H Q E → vs.length = n := fun vs H Q E z => by
  obtain ⟨ds, r, h1, h2, _⟩ := z
  rw [dps_len h1, h ds r h2]
theorem spD_of {R : List PyData → PyData → Prop} {ds : List PyData} {r : PyData} (h : R ds r) : SpP (SpD K R) K ds fun v H' => Dp K H' v r := fun H1 vs hv Q E q => ⟨ds, r, hv, h, q⟩
theorem spM_of {R : List PyData → List PyData → Prop} {ds r : List PyData} (h : R ds r) : SpP (SpM K R) K ds fun v H' => ML K H' v r := fun H1 vs hv Q E q => ⟨ds, r, hv, h, q⟩
theorem dps1 {H : Hp} {vs : List V} {a : PyData} (h : DpAll K H vs [a]) : ∃ x, vs = [x] ∧ Dp K H x a := by
  cases h with
  | cons h1 h2 => cases h2; exact ⟨_, rfl, h1⟩
theorem dps2 {H : Hp} {vs : List V} {a b : PyData} (h : DpAll K H vs [a, b]) : ∃ x y, vs = [x, y] ∧ Dp K H x a ∧ Dp K H y b := by
  cases h with
  | cons h1 h2 =>
    obtain ⟨y, rfl, q2⟩ := dps1 h2
    exact ⟨_, _, rfl, h1, q2⟩
theorem dps3 {H : Hp} {vs : List V} {a b c : PyData} (h : DpAll K H vs [a, b, c]) : ∃ x y z, vs = [x, y, z] ∧ Dp K H x a ∧ Dp K H y b ∧ Dp K H z c := by
  cases h with
  | cons h1 h2 =>
    obtain ⟨y, z, rfl, q2, q3⟩ := dps2 h2
    exact ⟨_, _, _, rfl, h1, q2, q3⟩
theorem dps4 {H : Hp} {vs : List V} {a b c d : PyData} (h : DpAll K H vs [a, b, c, d]) : ∃ x y z u, vs = [x, y, z, u] ∧ Dp K H x a ∧ Dp K H y b ∧ Dp K H z c ∧ Dp K H u d := by
  cases h with
  | cons h1 h2 =>
    obtain ⟨y, z, u, rfl, q2, q3, q4⟩ := dps3 h2
    exact ⟨_, _, _, _, rfl, h1, q2, q3, q4⟩

theorem kit_ii : kitB "int" "int" = some true := by decide +kernel
theorem kit_ib : kitB "int" "bool" = some false := by decide +kernel
theorem kit_bb : kitB "bool" "bool" = some true := by decide +kernel
theorem kit_tt : kitB "tuple" "tuple" = some true := by decide +kernel
theorem kit_tl : kitB "tuple" "list" = some false := by decide +kernel
theorem kit_it : kitB "int" "tuple" = some false := by decide +kernel
theorem kit_il : kitB "int" "list" = some false := by decide +kernel
theorem kit_is : kitB "int" "str" = some false := by decide +kernel
theorem kit_ts : kitB "tuple" "str" = some false := by decide +kernel
/-! is_in -/
def R_isin (ds : List PyData) (r : PyData) : Prop := ∃ x lo hi : Int, ds = [.int x, .int lo, .int hi] ∧ r = .bool (decide (lo ≤ x) && decide (x ≤ hi))
theorem sc_isin : FnScope ["value", "least", "most"] ["value", "least", "most"] (defScope s_isin) := ⟨rfl, rfl, rfl, by decide +kernel, rfl, by decide +kernel, by decide +kernel⟩
theorem c_isin (T : TB mg) (D : DefAt K mg "is_in" ["value", "least", "most"] s_isin) : Cal P w K mg base 1 "is_in" ["value", "least", "most"] (SpD K R_isin) := by
  refine D.cal sc_isin (SpD.len fun ds r h => ?_) (fun f cdv A outer s H vs Q E hr h => ?_)
  · obtain ⟨x, lo, hi, rfl, _⟩ := h
    rfl
  obtain ⟨ds, r, hv, ⟨x, lo, hi, rfl, rfl⟩, q⟩ := h
  obtain ⟨v1, v2, v3, rfl, h1, h2, h3⟩ := dps3 hv
  refine ⟨_, pss_one (ps_ret (pe_and (pe_callB (k_isi K) rfl T.isinstance (by decide +kernel) (pa_cons (pv 0) (pa_cons (pe_bltn (v := .ty "int") rfl T.int (by decide +kernel) rfl) pa_nil)))
    (pe_and (pe_not (pe_callB (k_isi K) rfl T.isinstance (by decide +kernel) (pa_cons (pv 0) (pa_cons (pe_bltn (v := .ty "bool") rfl T.bool (by decide +kernel) rfl) pa_nil))))
      (pe_one (pe_chain op_le op_le (pv 1) (pv 0) (pv 2)))))), ?_⟩
  refine s_ret (P := fun v H' => Dp K H' v (.bool (decide (lo ≤ x) && decide (x ≤ hi)))) ?_ q
  have e1 := ed_isi (σ := start ["value", "least", "most"] [v1, v2, v3]) (te := tVar 0) (n := "int") (b := true) (ed_var rfl h1) kit_ii
  have e2 := ed_isi (σ := start ["value", "least", "most"] [v1, v2, v3]) (te := tVar 0) (n := "bool") (b := false) (ed_var rfl h1) kit_ib
  exact EvD.is (ed_andV e1 fun _ => ed_andV (ed_notV e2) fun _ => ed_chain (f := fun i j => decide (i ≤ j)) (g := fun i j => decide (i ≤ j)) (ed_var rfl h2) (ed_var rfl h1) (ed_var rfl h3)) rfl

/-! members -/
theorem band1 (m k : Nat) : Builtin.bitAnd ((m : Int) / 2 ^ k) 1 = (((m / 2 ^ k) % 2 : Nat) : Int) := by
  have h0 : (0 : Int) ≤ 2 ^ k := two_pow_nn k
  have e := Bits.bit_at (x := (m : Int)) k
  rw [Int.fdiv_eq_ediv_of_nonneg _ h0] at e
  rw [e]
  rw [Int.natCast_emod, Int.natCast_ediv, Int.natCast_pow] <;> rfl
def bitOf (m k : Nat) : Bool := (m / 2 ^ k) % 2 == 1
def memb (m n : Nat) : List Nat := (List.range n).filter (bitOf m)
def natsD (xs : List Nat) : PyData := .tuple (xs.map fun k : Nat => .int (k : Int))
def R_mem (ds : List PyData) (r : PyData) : Prop := ∃ m n : Nat, ds = [.int m, .int n] ∧ n ≤ 1000 ∧ r = natsD (memb m n)
theorem sc_mem : FnScope ["number", "count", "k"] ["number", "count"] (defScope s_mem) := ⟨rfl, rfl, rfl, by decide +kernel, rfl, by decide +kernel, by decide +kernel⟩
theorem c_mem (T : TB mg) (D : DefAt K mg "members" ["number", "count"] s_mem) : Cal P w K mg base 1 "members" ["number", "count"] (SpD K R_mem) := by
  refine D.cal sc_mem (SpD.len fun ds r h => ?_) (fun f cdv A outer s H vs Q E hr h => ?_)
  · obtain ⟨x, lo, rfl, _⟩ := h
    rfl
  obtain ⟨ds, r, hv, ⟨m, n, rfl, hn, rfl⟩, q⟩ := h
  obtain ⟨v1, v2, rfl, h1, h2⟩ := dps2 hv
  refine ⟨_, pss_one (ps_ret (pe_callTy (k_tuple K) rfl T.tuple (by decide +kernel) (pa_cons (pe_lc (own := [("k", 2)]) (g := gName 2) rfl sc_mem.nd (pi_range1 rfl T.range (pa_cons (pv 1) pa_nil))
    (blkOk_by (own := [("k", 2)]) (N := ["number", "count", "k"]) (sc := defScope s_mem) (by decide +kernel)) (fun _ _ _ _ _ => pg_name (i := 2) sc_mem.nd rfl (Or.inl rfl))
    (fun _ _ _ _ _ => pts_one (k_truth K (pe_op op_and (pe_op op_shr (pv 0) (pv 2)) pe_int))) (fun _ _ _ _ _ => pv 2)) pa_nil))), ?_⟩
  refine s_ret (EvD.is (ep_cb (ea_cons (EvM.toD (em_lcR (n := n) (ea_cons (ed_var rfl h2) ea_nil) (by omega) (bitOf m) (fun k => .int (k : Int)) (fun _ => rfl) (fun _ _ _ => rfl) fun i H1 hi e => ⟨?_, fun _ => ed_vari rfl⟩)) ea_nil) rc_tupL) ?_) q
  · refine EvB.is (eb_truI (ed_op (ed_op (ed_var rfl (dp_same e _ _ h1)) (ed_vari rfl) (ro_I (by omega) fun _ => .int _)) ed_int (ro_I0 fun _ => .int _))) ?_
    rw [Int.toNat_natCast, band1]
    unfold bitOf
    have : (m / 2 ^ i) % 2 = 0 ∨ (m / 2 ^ i) % 2 = 1 := by omega
    rcases this with z | z <;> rw [z] <;> rfl
  · rfl
end
end K7
/-! ### part 1: the defs that look at a web -/
namespace K7
open PySem L2
def intsD (ns : List Int) : PyData := .tuple (ns.map .int)
def roadD (r : Road) : PyData := .tuple [.int (r.1 : Int), .int (r.2.1 : Int), .int r.2.2]
def webD (ws : List Int) (R : List Road) : PyData := .tuple [intsD ws, .tuple (R.map roadD)]
def rowD (n : Nat) (f : Nat → Int) : PyData := .list ((List.range n).map fun j => .int (f j))
def rowsD (n : Nat) (M : Nat → Nat → Int) : PyData := .list ((List.range n).map fun i => rowD n (M i))
theorem lay_ints : ∀ ns : List Int, PyData.canLayAll0 (ns.map .int) = true
  | [] => by rw [List.map_nil]; simp [PyData.canLayAll0]
  | n :: ns => by simp [PyData.canLayAll0, PyData.canLay0, lay_ints ns]
theorem dep_ints : ∀ ns : List Int, PyData.depthAll (ns.map .int) ≤ 1
  | [] => by rw [List.map_nil]; simp [PyData.depthAll]
  | n :: ns => by
    have h := dep_ints ns
    simp only [PyData.depthAll, PyData.depth, List.map_cons]
    omega
theorem shaped_ints (ns : List Int) : SeqAt.shaped (.tuple (ns.map .int)) = true := by
  have h := dep_ints ns
  show (PyData.canLay0 (.tuple _) && decide (PyData.depth (.tuple _) ≤ 64)) = true
  rw [Bool.and_eq_true]
  exact ⟨by simp only [PyData.canLay0]; exact lay_ints ns, decide_eq_true (by simp only [PyData.depth]; omega)⟩
theorem shaped_intsL (ns : List Int) : SeqAt.shaped (.list (ns.map .int)) = true := by
  have h := dep_ints ns
  show (PyData.canLay0 (.list _) && decide (PyData.depth (.list _) ≤ 64)) = true
  rw [Bool.and_eq_true]
  exact ⟨by simp only [PyData.canLay0]; exact lay_ints ns, decide_eq_true (by simp only [PyData.depth]; omega)⟩
theorem shaped_nil : SeqAt.shaped (.list []) = true := shaped_intsL []
theorem shaped_nilT : SeqAt.shaped (.tuple []) = true := shaped_ints []
theorem natsD_ints (xs : List Nat) : natsD xs = intsD (xs.map fun k : Nat => (k : Int)) := by
  unfold natsD intsD
  rw [List.map_map] <;> rfl
theorem eqvAll_self : ∀ ns : List Int, PyData.eqvAll (ns.map .int) (ns.map .int) = true
  | [] => by simp [PyData.eqvAll]
  | n :: ns => by simp [PyData.eqvAll, PyData.eqv, eqvAll_self ns]
section
variable {P : Program} {w : World} {K : PySem.W.Frag} {mg : Str → Option Value} {base : Heap}
/-! need_count -/
def R_nc (ds : List PyData) (r : PyData) : Prop := ∃ ws R, ∃ c : Int, ds = [webD ws R, .int c] ∧ 1 ≤ c ∧ c ≤ ws.length ∧ r = .none
theorem sc_nc : FnScope ["web", "count"] ["web", "count"] (defScope s_nc) := ⟨rfl, rfl, rfl, by decide +kernel, rfl, by decide +kernel, by decide +kernel⟩
theorem c_nc (T : TB mg) (CI : Cal P w K mg base 1 "is_in" ["value", "least", "most"] (SpD K R_isin)) (D : DefAt K mg "need_count" ["web", "count"] s_nc) : Cal P w K mg base 2 "need_count" ["web", "count"] (SpD K R_nc) := by
  refine D.cal sc_nc (SpD.len fun ds r h => ?_) (fun f cdv A outer s H vs Q E hr h => ?_)
  · obtain ⟨x, lo, hi, rfl, _⟩ := h
    rfl
  obtain ⟨ds, r, hv, ⟨ws, R, c, rfl, hc1, hc2, rfl⟩, q⟩ := h
  obtain ⟨v1, v2, rfl, h1, h2⟩ := dps2 hv
  refine ⟨_, (pss_one (ps_if (pt_not (pt_val (pe_callC CI (hr.mono (by decide)) rfl (pa_cons (pv 1) (pa_cons pe_int (pa_cons (pe_callB (k_len K) rfl T.len (by decide +kernel) (pa_cons (pe_ix (k_ixT K) (pv 0) pe_int (fun _ _ => rfl)) pa_nil)) pa_nil)))))) (pss_one ps_never) pss_nil)), ?_⟩
  refine s_no (EvB.is (eb_not (eb_B (ep_call (ea_cons (ed_var rfl h2) (ea_cons ed_int (ea_cons (ep_cb (ea_cons (ed_op (ed_var rfl h1) ed_int (ro_ixT (d := intsD ws) rfl)) ea_nil) (rc_lenT (n := ws.length) (List.length_map _))) ea_nil))) (spD_of ⟨c, 1, ws.length, rfl, rfl⟩)))) ?_) fun H1 e => q _ H1 e .non
  rw [decide_eq_true hc1, decide_eq_true hc2] <;> rfl
/-! is_way -/
def R_way (ds : List PyData) (r : PyData) : Prop := ∃ (x : Road) (n : Nat), ds = [roadD x, .int n] ∧ x.1 < n ∧ x.2.1 < n ∧ x.1 ≠ x.2.1 ∧ 1 ≤ x.2.2 ∧ x.2.2 ≤ 100 ∧ r = .bool true
theorem sc_way : FnScope ["value", "count"] ["value", "count"] (defScope s_way) := ⟨rfl, rfl, rfl, by decide +kernel, rfl, by decide +kernel, by decide +kernel⟩
theorem c_way (T : TB mg) (CI : Cal P w K mg base 1 "is_in" ["value", "least", "most"] (SpD K R_isin)) (D : DefAt K mg "is_way" ["value", "count"] s_way) : Cal P w K mg base 2 "is_way" ["value", "count"] (SpD K R_way) := by
  refine D.cal sc_way (SpD.len fun ds r h => ?_) (fun f cdv A outer s H vs Q E hr h => ?_)
  · obtain ⟨x, lo, rfl, _⟩ := h
    rfl
  obtain ⟨ds, r, hv, ⟨x, n, rfl, g1, g2, g3, g4, g5, rfl⟩, q⟩ := h
  obtain ⟨v1, v2, rfl, h1, h2⟩ := dps2 hv
  obtain ⟨tl, mgL⟩ := T.cl
  refine ⟨_, (pss_cons (ps_if (PW.pt (pw_or (pt_not (pt_val (pe_callB (k_isi K) rfl T.isinstance (by decide +kernel) (pa_cons (pv 0) (pa_cons (pe_bltn (v := .ty "tuple") rfl T.tuple (by decide +kernel) rfl) pa_nil))))) (pw_or1 (pt_cmpR op_ne (pe_callB (k_len K) rfl T.len (by decide +kernel) (pa_cons (pv 0) pa_nil)) pe_int (nomark _))))) (pss_one (ps_ret pe_bl)) pss_nil)
    (pss_cons (ps_if (PW.pt (pw_or (pt_not (pt_val (pe_callC CI (hr.mono (by decide)) rfl (pa_cons (pe_ix (k_ixT K) (pv 0) pe_int (fun _ _ => rfl)) (pa_cons pe_int (pa_cons (pe_op op_sub (pv 1) pe_int) pa_nil)))))) (pw_or (pt_not (pt_val (pe_callC CI (hr.mono (by decide)) rfl (pa_cons (pe_ix (k_ixT K) (pv 0) pe_int (fun _ _ => rfl)) (pa_cons pe_int (pa_cons (pe_op op_sub (pv 1) pe_int) pa_nil)))))) (pw_or1 (pt_cmpR op_eq (pe_ix (k_ixT K) (pv 0) pe_int (fun _ _ => rfl)) (pe_ix (k_ixT K) (pv 0) pe_int (fun _ _ => rfl)) (nomark _)))))) (pss_one (ps_ret pe_bl)) pss_nil)
    (pss_one (ps_ret (pe_callC CI (hr.mono (by decide)) rfl (pa_cons (pe_ix (k_ixT K) (pv 0) pe_int (fun _ _ => rfl)) (pa_cons pe_int (pa_cons (pe_glob (v := .int 100) rfl mgL ⟨_, rfl⟩) pa_nil)))))))), ?_⟩
  refine q_no (EvB.is (eb_or (eb_not (eb_B (ed_isi (ed_var rfl h1) kit_tt))) fun _ => eb_test (ed_op (ep_cb (ea_cons (ed_var rfl h1) ea_nil) (rc_lenT (n := 3) rfl)) ed_int ro_ne)) rfl) fun H1 e => ?_
  have h1' := dp_same e _ _ h1
  have h2' := dp_same e _ _ h2
  have i0 : EvD K (tOp (rIxT K) (tVar 0) (tC (.int 0))) (start ["value", "count"] [v1, v2]) H1 (.int (x.1 : Int)) := ed_op (ed_var rfl h1') ed_int (ro_ixT rfl)
  have i1 : EvD K (tOp (rIxT K) (tVar 0) (tC (.int 1))) (start ["value", "count"] [v1, v2]) H1 (.int (x.2.1 : Int)) := ed_op (ed_var rfl h1') ed_int (ro_ixT rfl)
  have i2 : EvD K (tOp (rIxT K) (tVar 0) (tC (.int 2))) (start ["value", "count"] [v1, v2]) H1 (.int x.2.2) := ed_op (ed_var rfl h1') ed_int (ro_ixT rfl)
  have n1 : EvD K (tOp (rI0 fun i j => .int (i - j)) (tVar 1) (tC (.int 1))) (start ["value", "count"] [v1, v2]) H1 (.int ((n : Int) - 1)) := ed_op (ed_var rfl h2') ed_int ro_sub
  refine q_no (EvB.is (eb_or (eb_not (eb_B (ep_call (ea_cons i0 (ea_cons ed_int (ea_cons n1 ea_nil))) (spD_of ⟨_, _, _, rfl, rfl⟩)))) fun _ =>
    eb_or (eb_not (eb_B (ep_call (ea_cons i1 (ea_cons ed_int (ea_cons n1 ea_nil))) (spD_of ⟨_, _, _, rfl, rfl⟩)))) fun _ => eb_test (ed_op i0 i1 ro_eq)) ?_) fun H2 e2 => ?_
  · rw [decide_eq_true (show (0 : Int) ≤ x.1 by omega), decide_eq_true (show (x.1 : Int) ≤ n - 1 by omega), decide_eq_true (show (0 : Int) ≤ x.2.1 by omega), decide_eq_true (show (x.2.1 : Int) ≤ n - 1 by omega), decide_eq_false (show ¬ (x.1 : Int) = x.2.1 by omega)]
    rfl
  refine s_ret (EvD.is (ep_call (ea_cons (i2.mono e2) (ea_cons ed_int (ea_cons ed_int ea_nil))) (spD_of ⟨_, _, _, rfl, rfl⟩)) ?_) fun v H3 e3 p => q v H3 ((e.trans e2).trans e3) p
  rw [decide_eq_true g4, decide_eq_true g5] <;> rfl
/-! is_weights -/
def R_isw (ds : List PyData) (r : PyData) : Prop := ∃ ws : List Int, ds = [intsD ws] ∧ 2 ≤ ws.length ∧ ws.length ≤ 8 ∧ (∀ x ∈ ws, 0 ≤ x ∧ x ≤ 100) ∧ 0 < ws.sum ∧ r = .bool true
theorem sc_isw : FnScope ["value", "one"] ["value"] (defScope s_isw) := ⟨rfl, rfl, rfl, by decide +kernel, rfl, by decide +kernel, by decide +kernel⟩
theorem c_isw (T : TB mg) (CI : Cal P w K mg base 1 "is_in" ["value", "least", "most"] (SpD K R_isin)) (D : DefAt K mg "is_weights" ["value"] s_isw) : Cal P w K mg base 2 "is_weights" ["value"] (SpD K R_isw) := by
  refine D.cal sc_isw (SpD.len fun ds r h => ?_) (fun f cdv A outer s H vs Q E hr h => ?_)
  · obtain ⟨x, rfl, _⟩ := h
    rfl
  obtain ⟨ds, r, hv, ⟨ws, rfl, g1, g2, g3, g4, rfl⟩, q⟩ := h
  obtain ⟨v1, rfl, h1⟩ := dps1 hv
  obtain ⟨t8, mg8⟩ := T.c8
  obtain ⟨tw, mgW⟩ := T.cw
  refine ⟨_, (pss_cons (ps_if (PW.pt (pw_or (pt_not (pt_val (pe_callB (k_isi K) rfl T.isinstance (by decide +kernel) (pa_cons (pv 0) (pa_cons (pe_bltn (v := .ty "tuple") rfl T.tuple (by decide +kernel) rfl) pa_nil))))) (pw_or1 (pt_not (pt_chain op_le op_le pe_int (pe_callB (k_len K) rfl T.len (by decide +kernel) (pa_cons (pv 0) pa_nil)) (pe_glob (v := .int 8) rfl mg8 ⟨_, rfl⟩)))))) (pss_one (ps_ret pe_bl)) pss_nil)
    (pss_one (ps_ret (pe_and (pe_cmpR (k_eqD K hr.units) (pe_lc (own := [("one", 1)]) (g := (gName 1)) rfl sc_isw.nd (k_pitup K (pv 0)) (blkOk_by (own := [("one", 1)]) (N := ["value", "one"]) (sc := defScope s_isw) (by decide +kernel)) (fun _ _ _ _ _ => (pg_name (i := 1) sc_isw.nd rfl (Or.inl rfl))) (fun _ _ _ _ _ => (pts_one (pt_not (pt_val (pe_callC CI (hr.mono (by decide)) rfl (pa_cons (pv 1) (pa_cons pe_int (pa_cons (pe_glob (v := .int 100) rfl mgW ⟨_, rfl⟩) pa_nil)))))))) (fun _ _ _ _ _ => (pv 1))) (pe_lst pa_nil) (nomark _)) (pe_one (pe_cmpR op_gt (pe_callB (k_sumT K) rfl T.sum (by decide +kernel) (pa_cons (pv 0) pa_nil)) pe_int (nomark _))))))), ?_⟩
  have hl : (ws.map PyData.int).length = ws.length := List.length_map _
  refine q_no (EvB.is (eb_or (eb_not (eb_B (ed_isi (ed_var rfl h1) kit_tt))) fun _ => eb_not (eb_test (ed_chain (f := fun i j => decide (i ≤ j)) (g := fun i j => decide (i ≤ j)) ed_int (ep_cb (ea_cons (ed_var rfl h1) ea_nil) (rc_lenT hl)) ed_int))) ?_) fun H1 e => ?_
  · rw [decide_eq_true (show (2 : Int) ≤ ws.length by omega), decide_eq_true (show (ws.length : Int) ≤ 8 by omega)]
    rfl
  have h1' := dp_same e _ _ h1
  refine s_ret (EvD.is (ed_andV (ed_op (EvM.toD (em_lcN (K := K) (ei_tupV rfl h1').i (fun _ => false) (fun _ => .none) (fun _ => rfl) (by omega) (fun _ _ z => nomatch z) fun i d x H2 hd e2 hx => ⟨?_, fun z => nomatch z⟩)) (EvM.toD (em_lst ea_nil (by simp))) (ro_eqD (b := true) ?_ shaped_nil ?_)) fun _ =>
    ed_op (ep_cb (ea_cons (ed_var rfl h1') ea_nil) rc_sumT) ed_int ro_cmp) ?_) fun v H3 e3 p => q v H3 (e.trans e3) p
  · rw [List.getElem?_map] at hd
    obtain ⟨y, hy, rfl⟩ := Option.map_eq_some_iff.mp hd
    have g := g3 y (List.mem_of_getElem? hy)
    refine EvB.is (eb_not (eb_B (ep_call (ea_cons (ed_var rfl hx) (ea_cons ed_int (ea_cons ed_int ea_nil))) (spD_of ⟨_, _, _, rfl, rfl⟩)))) ?_
    rw [decide_eq_true g.1, decide_eq_true g.2] <;> rfl
  · rw [givenD_nil fun _ _ => rfl]
    exact shaped_nil
  · rw [givenD_nil fun _ _ => rfl] <;> rfl
  · show PyData.bool (true && decide (0 < ws.sum)) = _
    rw [decide_eq_true g4] <;> rfl
/-! need_houses -/
def R_nh (ds : List PyData) (r : PyData) : Prop := ∃ ws R, ∃ hs : List Nat, ds = [webD ws R, natsD hs] ∧ hs ≠ [] ∧ hs.Pairwise (· < ·) ∧ (∀ k ∈ hs, k < ws.length) ∧ hs.length ≤ 60 ∧ r = .none
theorem sc_nh : FnScope ["web", "houses", "x"] ["web", "houses"] (defScope s_nh) := ⟨rfl, rfl, rfl, by decide +kernel, rfl, by decide +kernel, by decide +kernel⟩
theorem c_nh (T : TB mg) (CI : Cal P w K mg base 1 "is_in" ["value", "least", "most"] (SpD K R_isin)) (D : DefAt K mg "need_houses" ["web", "houses"] s_nh) : Cal P w K mg base 2 "need_houses" ["web", "houses"] (SpD K R_nh) := by
  refine D.cal sc_nh (SpD.len fun ds r h => ?_) (fun f cdv A outer s H vs Q E hr h => ?_)
  · obtain ⟨x, lo, hi, rfl, _⟩ := h
    rfl
  obtain ⟨ds, r, hv, ⟨ws, R, hs, rfl, g1, g2, g3, g4, rfl⟩, q⟩ := h
  obtain ⟨v1, v2, rfl, h1, h2⟩ := dps2 hv
  refine ⟨_, (pss_cons (ps_if (PW.pt (pw_or (pt_not (pt_val (pe_callB (k_isi K) rfl T.isinstance (by decide +kernel) (pa_cons (pv 1) (pa_cons (pe_bltn (v := .ty "tuple") rfl T.tuple (by decide +kernel) rfl) pa_nil))))) (pw_or1 (pt_cmpR (k_eqD K hr.units) (pv 1) (pe_tup pa_nil) (nomark _))))) (pss_one ps_never) pss_nil)
    (pss_one (ps_if (PW.pt (pw_or (pt_cmpR (k_neD K hr.units) (pe_lc (own := [("x", 2)]) (g := (gName 2)) rfl sc_nh.nd (k_pitup K (pv 1)) (blkOk_by (own := [("x", 2)]) (N := ["web", "houses", "x"]) (sc := defScope s_nh) (by decide +kernel)) (fun _ _ _ _ _ => (pg_name (i := 2) sc_nh.nd rfl (Or.inl rfl))) (fun _ _ _ _ _ => (pts_one (pt_not (pt_val (pe_callC CI (hr.mono (by decide)) rfl (pa_cons (pv 2) (pa_cons pe_int (pa_cons (pe_op op_sub (pe_callB (k_len K) rfl T.len (by decide +kernel) (pa_cons (pe_ix (k_ixT K) (pv 0) pe_int (fun _ _ => rfl)) pa_nil)) pe_int) pa_nil)))))))) (fun _ _ _ _ _ => (pv 2))) (pe_lst pa_nil) (nomark _)) (pw_or1 (pt_cmpR (k_neD K hr.units) (pe_callTy (k_list K) rfl T.list (by decide +kernel) (pa_cons (pv 1) pa_nil)) (pe_callB (k_sortedSet w) rfl T.sorted (by decide +kernel) (pa_cons (pe_callTy (k_setT K w) rfl T.set (by decide +kernel) (pa_cons (pv 1) pa_nil)) pa_nil)) (nomark _))))) (pss_one ps_never) pss_nil))), ?_⟩
  have h2i : Dp K H v2 (.tuple ((hs.map fun k : Nat => (k : Int)).map .int)) := by
    have z := natsD_ints hs
    unfold intsD at z
    rw [← z]
    exact h2
  have hl : (hs.map fun k : Nat => PyData.int (k : Int)).length = hs.length := List.length_map _
  refine q_no (EvB.is (eb_or (eb_not (eb_B (ed_isi (ed_var rfl h2) kit_tt))) fun _ => eb_test (ed_op (ed_var rfl h2i) (ed_tup ea_nil (by simp)) (ro_eqD (b := false) (shaped_ints _) shaped_nilT ?_))) rfl) fun H1 e => ?_
  · cases hs with
    | nil => exact absurd rfl g1
    | cons k r => rfl
  have h1' := dp_same e _ _ h1
  have h2' := dp_same e _ _ h2
  have h2i' := dp_same e _ _ h2i
  have hlw : (ws.map PyData.int).length = ws.length := List.length_map _
  refine s_no (EvB.is (eb_or (eb_test (ed_op (EvM.toD (em_lcN (K := K) (ei_tupV rfl h2').i (fun _ => false) (fun _ => .none) (fun _ => rfl) (by omega) (fun _ _ z => nomatch z) fun i d x H2 hd e2 hx => ⟨?_, fun z => nomatch z⟩)) (EvM.toD (em_lst ea_nil (by simp))) (ro_neD (b := false) ?_ shaped_nil ?_))) fun _ =>
    eb_test (ed_op (EvM.toD (ep_cb (ea_cons (ed_var rfl h2i') ea_nil) rc_listT)) (EvM.toD (em_sortedSet (ed_var rfl h2i') ?_ ?_)) (ro_neD (b := false) (shaped_intsL _) (shaped_intsL _) ?_))) rfl) fun H2 e2 => q _ H2 (e.trans e2) .non
  · rw [List.getElem?_map] at hd
    obtain ⟨y, hy, rfl⟩ := Option.map_eq_some_iff.mp hd
    have g := g3 y (List.mem_of_getElem? hy)
    refine EvB.is (eb_not (eb_B (ep_call (ea_cons (ed_var rfl hx) (ea_cons ed_int (ea_cons (ed_op (ep_cb (ea_cons (ed_op (ed_var rfl (dp_same e2 _ _ h1')) ed_int (ro_ixT (d := intsD ws) rfl)) ea_nil) (rc_lenT hlw)) ed_int ro_sub) ea_nil))) (spD_of ⟨_, _, _, rfl, rfl⟩)))) ?_
    rw [decide_eq_true (show (0 : Int) ≤ y by omega), decide_eq_true (show (y : Int) ≤ ws.length - 1 by omega)] <;> rfl
  · rw [givenD_nil fun _ _ => rfl]
    exact shaped_nil
  · rw [givenD_nil fun _ _ => rfl] <;> rfl
  · exact (List.pairwise_map).mpr (g2.imp fun h => by omega)
  · rw [List.length_map]; omega
  · show (!PyData.eqvAll _ _) = false
    rw [eqvAll_self] <;> rfl
end
end K7
/-! ### part 2: sums over a web -/
namespace K7
open PySem L2
def p0 : Pos := ⟨0, 0, 0, 0⟩
def scp (e : Expr) : Scope := match e with | .ListComp _ _ sc _ => sc | _ => { kind := .function, names := [], isGenerator := false, isCoroutine := false }
def arg0 (e : Expr) : Expr := match e with | .Call _ (a :: _) _ _ => a | e => e
def retE (s : Stmt) : Expr := match s with | .Return (some e) _ => e | .Assign _ e _ => e | _ => .Name "x" ⟨0, 0, 0, 0⟩
def minL : List Int → Int
  | [] => 0
  | [x] => x
  | x :: y :: r => min x (minL (y :: r))
theorem minL_spec : ∀ (x : Int) (r : List Int), minL (x :: r) ∈ x :: r ∧ ∀ y ∈ x :: r, minL (x :: r) ≤ y
  | x, [] => ⟨List.mem_cons_self, fun y hy => by
    rw [List.mem_singleton.mp hy]
    exact Int.le_refl _⟩
  | x, z :: r => by
    obtain ⟨h1, h2⟩ := minL_spec z r
    show min x (minL (z :: r)) ∈ _ ∧ _
    refine ⟨?_, fun y hy => ?_⟩
    · by_cases h : x ≤ minL (z :: r)
      · rw [Int.min_eq_left h]
        exact List.mem_cons_self
      · rw [Int.min_eq_right (by omega)]
        exact List.mem_cons_of_mem _ h1
    · show min x (minL (z :: r)) ≤ y
      rcases (List.mem_cons).mp hy with rfl | hy
      · exact Int.min_le_left _ _
      · have := h2 y hy
        omega
theorem minL_mem {ns : List Int} (h : ns ≠ []) : minL ns ∈ ns := by
  cases ns with
  | nil => exact absurd rfl h
  | cons x r => exact (minL_spec x r).1
theorem minL_le {ns : List Int} {y : Int} (h : y ∈ ns) : minL ns ≤ y := by
  cases ns with
  | nil => cases h
  | cons x r => exact (minL_spec x r).2 y h
theorem minL_is {ns : List Int} {k : Int} (hk : k ∈ ns) (h : ∀ y, y ∈ ns → k ≤ y) : k = minL ns := by
  have h0 : ns ≠ [] := by rintro rfl; cases hk
  have h1 := minL_le hk
  have h2 := h _ (minL_mem h0)
  omega
theorem at_tab {n k : Nat} {f : Nat → PyData} (h : k < n) : atI ((List.range n).map f) (k : Int) = some (f k) := atI_nat (by rw [List.getElem?_map, List.getElem?_range h] <;> rfl)
theorem rows_at {n k : Nat} {M : Nat → Nat → Int} (h : k < n) : atI ((List.range n).map fun i => rowD n (M i)) (k : Int) = some (rowD n (M k)) := at_tab h
theorem row_at {n k : Nat} {f : Nat → Int} (h : k < n) : atI ((List.range n).map fun j => PyData.int (f j)) (k : Int) = some (.int (f k)) := at_tab (f := fun j => .int (f j)) h
/-- the way to the nearest of some houses and back -/
def near (d : Nat → Nat → Int) (hs : List Nat) (k : Nat) : Int := minL (hs.map fun x => d k x + d x k)
def rsum (n : Nat) (ws : List Int) (d : Nat → Nat → Int) (hs : List Nat) : Int := ((List.range n).map fun k => ws.getD k 0 * near d hs k).sum
theorem ints_get {ws : List Int} {i : Nat} {d : PyData} (h : (ws.map PyData.int)[i]? = some d) : i < ws.length ∧ ws[i]? = some (ws.getD i 0) ∧ d = .int (ws.getD i 0) := by
  rw [List.getElem?_map] at h
  obtain ⟨y, hy, rfl⟩ := Option.map_eq_some_iff.mp h
  have hi := (List.getElem?_eq_some_iff.mp hy).1
  have e : ws.getD i 0 = y := by rw [List.getD_eq_getElem?_getD, hy] <;> rfl
  exact ⟨hi, by rw [e]; exact hy, by rw [e]⟩
theorem nats_get {hs : List Nat} {i : Nat} {d : PyData} (h : (hs.map fun k : Nat => PyData.int (k : Int))[i]? = some d) : ∃ k, hs[i]? = some k ∧ d = .int (k : Int) := by
  rw [List.getElem?_map] at h
  obtain ⟨y, hy, rfl⟩ := Option.map_eq_some_iff.mp h
  exact ⟨y, hy, rfl⟩
theorem getD_mapI {α β : Type} {l : List α} {f : α → β} {i : Nat} {x : α} {b : β} (h : l[i]? = some x) : (l.map f).getD i b = f x := by
  rw [List.getD_eq_getElem?_getD, List.getElem?_map, h] <;> rfl
theorem range_mapD {α β : Type} (l : List α) (f : α → β) (b : β) : (List.range l.length).map (fun i => (l.map f).getD i b) = l.map f := by
  apply List.ext_getElem?
  intro i
  by_cases h : i < l.length
  · rw [List.getElem?_map, List.getElem?_range h, List.getElem?_map, List.getElem?_eq_getElem h]
    show some ((l.map f).getD i b) = some (f l[i])
    rw [getD_mapI (List.getElem?_eq_getElem h)]
  · rw [List.getElem?_eq_none (by simpa using h), List.getElem?_eq_none (by simpa using h)]
theorem range_mapF {α β γ : Type} (l : List α) (f : α → β) (b : β) (F : β → γ) : (List.range l.length).map (fun i => F ((l.map f).getD i b)) = (l.map f).map F :=
  (List.map_map (f := fun i => (l.map f).getD i b) (g := F)).symm.trans (congrArg (List.map F) (range_mapD l f b))
section
variable {P : Program} {w : World} {K : PySem.W.Frag} {mg : Str → Option Value} {base : Heap}
/-! round_in -/
def R_ri (ds : List PyData) (r : PyData) : Prop := ∃ (n : Nat) (ws : List Int) (R : List Road) (d : Nat → Nat → Int) (hs : List Nat), ds = [webD ws R, rowsD n d, natsD hs] ∧ ws.length = n ∧ n ≤ 100 ∧ (∀ x ∈ ws, 0 ≤ x ∧ x ≤ 100) ∧ hs ≠ [] ∧ hs.length ≤ 100 ∧ (∀ k ∈ hs, k < n) ∧ r = .int (rsum n ws d hs)
theorem sc_ri : FnScope ["oneway", "rows", "houses", "k", "one", "x"] ["oneway", "rows", "houses"] (defScope s_ri) := ⟨rfl, rfl, rfl, by decide +kernel, rfl, by decide +kernel, by decide +kernel⟩
theorem c_ri (T : TB mg) (D : DefAt K mg "round_in" ["oneway", "rows", "houses"] s_ri) : Cal P w K mg base 1 "round_in" ["oneway", "rows", "houses"] (SpD K R_ri) := by
  refine D.cal sc_ri (SpD.len fun ds r h => ?_) (fun f cdv A outer s H vs Q E hr h => ?_)
  · obtain ⟨_, _, _, _, _, rfl, _⟩ := h
    rfl
  obtain ⟨ds, r, hv, ⟨n, ws, R, d, hs, rfl, g1, g2, g3, g4, g5, g6, rfl⟩, q⟩ := h
  obtain ⟨v1, v2, v3, rfl, h1, h2, h3⟩ := dps3 hv
  refine ⟨_, (pss_one (ps_ret (pe_callB (k_sum K) rfl T.sum (by decide +kernel) (pa_cons (pe_lc (own := [("k", 3), ("one", 4)]) (g := (gTup K 2 (gCons (gName 3) (gCons (gName 4) gNil)))) rfl sc_ri.nd (k_pienum K rfl T.enumerate (pa_cons (pe_ix (k_ixT K) (pv 0) pe_int (fun _ _ => rfl)) pa_nil)) (blkOk_by (own := [("k", 3), ("one", 4)]) (N := ["oneway", "rows", "houses", "k", "one", "x"]) (sc := defScope s_ri) (by decide +kernel)) (fun _ _ _ _ _ => (k_gtup K (pgs_cons (pg_name (i := 3) sc_ri.nd rfl (Or.inr rfl)) (pgs_cons (pg_name (i := 4) sc_ri.nd rfl (Or.inl rfl)) pgs_nil)))) (fun _ _ _ _ _ => pts_nil) (fun _ _ _ _ _ => (pe_op op_mul (pv 4) (pe_callB (k_min K) rfl T.min (by decide +kernel) (pa_cons (pe_lc (own := [("x", 5)]) (g := (gName 5)) rfl sc_ri.nd (k_pitup K (pv 2)) (blkOk_by (own := [("x", 5)]) (N := ["oneway", "rows", "houses", "k", "one", "x"]) (sc := relS (scp (arg0 (retE ((defBody s_ri).getD 0 (.Pass ⟨0, 0, 0, 0⟩))))) (defScope s_ri)) (by decide +kernel)) (fun _ _ _ _ _ => (pg_name (i := 5) sc_ri.nd rfl (Or.inl rfl))) (fun _ _ _ _ _ => pts_nil) (fun _ _ _ _ _ => (pe_op op_add (pe_ix (k_ixL K) (pe_ix (k_ixL K) (pv 1) (pv 3) (fun _ _ => rfl)) (pv 5) (fun _ _ => rfl)) (pe_ix (k_ixL K) (pe_ix (k_ixL K) (pv 1) (pv 5) (fun _ _ => rfl)) (pv 3) (fun _ _ => rfl))))) pa_nil))))) pa_nil)))), ?_⟩
  have hlw : (enumD (ws.map PyData.int)).length = n := by rw [enumD_len, List.length_map, g1]
  refine s_ret (ep_cb (ds := [.list (((List.range n).map fun k => ws.getD k 0 * near d hs k).map .int)]) (ea_cons (EvM.toD (EvM.is (em_lc (K := K) (ei_enumT (ds := ws.map .int) (ea_cons (ed_op (ed_var rfl h1) ed_int (ro_ixT rfl)) ea_nil)) (fun _ => true) (fun k => .int (ws.getD k 0 * near d hs k)) (by omega) (fun _ _ _ => rfl) fun i e x H1 he e1 hx => ?_) ?_)) ea_nil) rc_sum) q
  · obtain ⟨e', he', rfl⟩ := enumD_get' he
    obtain ⟨hi, hw, rfl⟩ := ints_get he'
    have gw := g3 _ (List.mem_of_getElem? hw)
    obtain ⟨x1, x2, y1, y2, hq⟩ := g_tup2 (σ := wipe (start ["oneway", "rows", "houses", "k", "one", "x"] [v1, v2, v3]) [3, 4]) (i := 3) (j := 4) hx
    cases y1
    cases y2
    have hin : i < n := by omega
    refine ⟨_, ?_, hq, eb_yes, fun _ => ?_⟩
    · rfl
    refine ed_op (ed_vari rfl) (ep_cb (ds := [.list ((hs.map fun x => d i x + d x i).map .int)]) (ea_cons (EvM.toD (EvM.is (em_lcN (K := K) (ei_tupV rfl (dp_same e1 _ _ h3)).i (fun _ => true) (fun j => .int ((hs.map fun x => d i x + d x i).getD j 0)) (fun _ => rfl) (by rw [List.length_map]; omega) (fun _ _ _ => rfl) fun j e z H2 he2 e2 hz => ⟨eb_yes, fun _ => ?_⟩) ?_)) ea_nil)
      (rc_min (m := near d hs i) ?_ fun k hk hy => minL_is hk hy)) (ro_mul (.inl ⟨by omega, by omega⟩))
    · obtain ⟨y, hy, rfl⟩ := nats_get he2
      have hyn := g6 y (List.mem_of_getElem? hy)
      cases hz
      have h2' := dp_same (e1.trans e2) _ _ h2
      refine EvD.is (ed_op (ed_op (ed_op (ed_var rfl h2') (ed_vari rfl) (ro_ixL (rows_at hin))) (ed_vari rfl) (ro_ixL (row_at hyn))) (ed_op (ed_op (ed_var rfl h2') (ed_vari rfl) (ro_ixL (rows_at hyn))) (ed_vari rfl) (ro_ixL (row_at hin))) ro_add) ?_
      rw [getD_mapI hy]
    · rw [givenD_all, List.length_map]
      exact range_mapF hs (fun x => d i x + d x i) 0 PyData.int
    · rw [List.length_map]
      exact List.length_pos_iff.mpr g4
  · rw [givenD_all, hlw, List.map_map] <;> rfl
/-! least_told -/
def leastPts (ns : List Int) : List Nat := (List.range ns.length).filter fun k => decide (ns.getD k 0 = minL ns)
def R_lt (ds : List PyData) (r : PyData) : Prop := ∃ ns : List Int, ds = [.list (ns.map .int)] ∧ ns ≠ [] ∧ ns.length ≤ 1000 ∧ r = .tuple [.int (minL ns), natsD (leastPts ns)]
theorem sc_lt : FnScope ["sums", "k"] ["sums"] (defScope s_lt) := ⟨rfl, rfl, rfl, by decide +kernel, rfl, by decide +kernel, by decide +kernel⟩
theorem c_lt (T : TB mg) (D : DefAt K mg "least_told" ["sums"] s_lt) : Cal P w K mg base 1 "least_told" ["sums"] (SpD K R_lt) := by
  refine D.cal sc_lt (SpD.len fun ds r h => ?_) (fun f cdv A outer s H vs Q E hr h => ?_)
  · obtain ⟨_, rfl, _⟩ := h
    rfl
  obtain ⟨ds, r, hv, ⟨ns, rfl, g1, g2, rfl⟩, q⟩ := h
  obtain ⟨v1, rfl, h1⟩ := dps1 hv
  refine ⟨_, (pss_one (ps_ret (pe_tup (pa_cons (pe_callB (k_min K) rfl T.min (by decide +kernel) (pa_cons (pv 0) pa_nil)) (pa_cons (pe_callTy (k_tuple K) rfl T.tuple (by decide +kernel) (pa_cons (pe_lc (own := [("k", 1)]) (g := (gName 1)) rfl sc_lt.nd (pi_range1 rfl T.range (pa_cons (pe_callB (k_len K) rfl T.len (by decide +kernel) (pa_cons (pv 0) pa_nil)) pa_nil)) (blkOk_by (own := [("k", 1)]) (N := ["sums", "k"]) (sc := defScope s_lt) (by decide +kernel)) (fun _ _ _ _ _ => (pg_name (i := 1) sc_lt.nd rfl (Or.inl rfl))) (fun _ _ _ _ _ => (pts_one (pt_cmpR op_eq (pe_ix (k_ixL K) (pv 0) (pv 1) (fun _ _ => rfl)) (pe_callB (k_min K) rfl T.min (by decide +kernel) (pa_cons (pv 0) pa_nil)) (nomark _)))) (fun _ _ _ _ _ => (pv 1))) pa_nil)) pa_nil))))), ?_⟩
  have hlw : (ns.map PyData.int).length = ns.length := List.length_map _
  have hm : ∀ k, k ∈ ns → (∀ y, y ∈ ns → k ≤ y) → k = minL ns := fun k hk hy => minL_is hk hy
  have hp : 0 < ns.length := List.length_pos_iff.mpr g1
  refine s_ret (ed_tup (ea_cons (ep_cb (ea_cons (ed_var rfl h1) ea_nil) (rc_min hp hm)) (ea_cons (ep_cb (ea_cons (EvM.toD (EvM.is (em_lcR (K := K) (n := ns.length) (ea_cons (ep_cb (ea_cons (ed_var rfl h1) ea_nil) (rc_lenL hlw)) ea_nil) (by omega) (fun k => decide (ns.getD k 0 = minL ns)) (fun k => .int (k : Int)) (fun _ => rfl) (fun _ _ _ => rfl) fun i H1 hi e => ⟨?_, fun _ => ed_vari rfl⟩) ?_)) ea_nil) rc_tupL) ea_nil)) (by simp)) q
  · have h1' := dp_same e _ _ h1
    refine eb_test (ed_op (ed_op (ed_var rfl h1') (ed_vari rfl) (ro_ixL (d := .int (ns.getD i 0)) (atI_nat ?_))) (ep_cb (ea_cons (ed_var rfl h1') ea_nil) (rc_min hp hm)) ro_eq)
    rw [List.getElem?_map, List.getElem?_eq_getElem hi, List.getD_eq_getElem?_getD, List.getElem?_eq_getElem hi] <;> rfl
  · rfl
end
end K7
/-! ### part 3: tables that change, rows_there of both -/
namespace K7
open PySem L2
def upd2 (M : Nat → Nat → Int) (i j : Nat) (v : Int) : Nat → Nat → Int := fun i' j' => if i' = i ∧ j' = j then v else M i' j'
def setRoads (R : List Road) (M : Nat → Nat → Int) : Nat → Nat → Int := R.foldl (fun M r => upd2 M r.1 r.2.1 r.2.2) M
def fwJ (n k i : Nat) (M : Nat → Nat → Int) : Nat → Nat → Int := (List.range n).foldl (fun M j => upd2 M i j (min (M i j) (M i k + M k j))) M
def fwI (n k m : Nat) (M : Nat → Nat → Int) : Nat → Nat → Int := (List.range m).foldl (fun M i => fwJ n k i M) M
def fwK (n m : Nat) (M : Nat → Nat → Int) : Nat → Nat → Int := (List.range m).foldl (fun M k => fwI n k n M) M
def bfI (n m : Nat) (r : Road) (M : Nat → Nat → Int) : Nat → Nat → Int := (List.range m).foldl (fun M i => upd2 M i r.2.1 (min (M i r.2.1) (M i r.1 + r.2.2))) M
def bfR (n : Nat) (R : List Road) (M : Nat → Nat → Int) : Nat → Nat → Int := R.foldl (fun M r => bfI n n r M) M
def bfT (n m : Nat) (R : List Road) (M : Nat → Nat → Int) : Nat → Nat → Int := (List.range m).foldl (fun M _ => bfR n R M) M
theorem foldl_succ {α : Type} (f : α → Nat → α) (a : α) (m : Nat) : (List.range (m + 1)).foldl f a = f ((List.range m).foldl f a) m := by
  rw [List.range_succ]; rw [List.foldl_append] <;> rfl
theorem foldl_take {α β : Type} (f : α → β → α) (a : α) {l : List β} {i : Nat} {x : β} (h : l[i]? = some x) : (l.take (i + 1)).foldl f a = f ((l.take i).foldl f a) x := by
  rw [List.take_succ, h, List.foldl_append] <;> rfl
def rowV (n : Nat) (f : Nat → Int) : List V := (List.range n).map fun j => .int (f j)
theorem rowV_len {n : Nat} {f : Nat → Int} : (rowV n f).length = n := by unfold rowV; rw [List.length_map, List.length_range]
theorem rowV_ints (n : Nat) (f : Nat → Int) : rowV n f = ((List.range n).map f).map V.int := by unfold rowV; rw [List.map_map] <;> rfl
theorem rowD_ints (n : Nat) (f : Nat → Int) : rowD n f = .list (((List.range n).map f).map .int) := by unfold rowD; rw [List.map_map] <;> rfl
theorem rowV_set {n i j : Nat} {M : Nat → Nat → Int} {v : Int} : (rowV n (M i)).set j (.int v) = rowV n (upd2 M i j v i) := by
  apply List.ext_getElem?
  intro k
  unfold rowV
  rw [List.getElem?_set]
  by_cases hk : k < n
  · by_cases e : j = k
    · subst e
      rw [if_pos rfl, List.length_map, List.length_range, if_pos hk, List.getElem?_map, List.getElem?_range hk]
      simp [upd2]
    · rw [if_neg e, List.getElem?_map, List.getElem?_map, List.getElem?_range hk]
      simp [upd2, Ne.symm e]
  · have h1 : ((List.range n).map fun j => V.int (upd2 M i j v i j))[k]? = none := List.getElem?_eq_none (by simpa using hk)
    have h2 : ((List.range n).map fun j => V.int (M i j))[k]? = none := List.getElem?_eq_none (by simpa using hk)
    have h3 : ∀ g : Nat → Int, ((List.range n).map fun j => V.int (g j))[k]? = none := fun g => List.getElem?_eq_none (by simpa using hk)
    rw [h3, h3]
    by_cases e : j = k
    · rw [if_pos e, List.length_map, List.length_range, if_neg (by omega)]
    · rw [if_neg e]
theorem upd2_ne {n i i' j : Nat} {M : Nat → Nat → Int} {v : Int} (h : i' ≠ i) : rowV n (upd2 M i j v i') = rowV n (M i') := by
  unfold rowV upd2
  simp [h]
/-- a table of own lists, all made behind Hb -/
def Mt (Hb H : Hp) (a : Addr) (n : Nat) (M : Nat → Nat → Int) : Prop := ∃ ps : List Addr, H a = some (.lst (ps.map V.ref)) ∧ Hb a = none ∧ ps.length = n ∧ ps.Nodup ∧ a ∉ ps ∧ (∀ p ∈ ps, Hb p = none) ∧ ∀ i p, ps[i]? = some p → H p = some (.lst (rowV n (M i)))
section
variable {K : PySem.W.Frag} {σ : St} {H H' Hb : Hp} {ta tb tc te : TE} {t u : TT} {D : Ends} {wi : TI} {items : List PyData}
theorem Mt.same {a : Addr} {n : Nat} {M : Nat → Nat → Int} (e : Same H H') (h : Mt Hb H a n M) : Mt Hb H' a n M := by
  obtain ⟨ps, h1, h2, h3, h4, h5, h6, h7⟩ := h
  exact ⟨ps, e _ _ h1, h2, h3, h4, h5, h6, fun i p hp => e _ _ (h7 i p hp)⟩
theorem dps_tab {n : Nat} {vs : List V} {f : Nat → PyData} (hl : vs.length = n) (h : ∀ i v, vs[i]? = some v → Dp K H v (f i)) : DpAll K H vs ((List.range n).map f) := by
  induction vs generalizing n f with
  | nil => subst hl; exact .nil
  | cons v r ih =>
    subst hl
    rw [List.length_cons, List.range_succ_eq_map]; rw [List.map_cons, List.map_map]
    exact .cons (h 0 v rfl) (ih (f := f ∘ Nat.succ) rfl fun i w hw => h (i + 1) w hw)
theorem Mt.dp {a : Addr} {n : Nat} {M : Nat → Nat → Int} (h : Mt Hb H a n M) : Dp K H (.ref a) (rowsD n M) := by
  obtain ⟨ps, h1, h2, h3, h4, h5, h6, h7⟩ := h
  refine .lst (SqL.of h1) (dps_tab (by rw [List.length_map, h3]) fun i v hv => ?_)
  rw [List.getElem?_map] at hv
  obtain ⟨p, hp, rfl⟩ := (Option.map_eq_some_iff).mp hv
  rw [rowD_ints]
  refine .lst (SqL.of (h7 i p hp)) ?_
  rw [rowV_ints]
  exact dps_of_ints _
/-- a new list of ints -/
def EvF (te : TE) (σ : St) (H : Hp) (xs : List V) : Prop := ∀ H1, Same H H1 → ∀ Q : VK, (∀ p H2, H1 p = none → Same H1 H2 → H2 p = some (.lst xs) → Q (.ref p) H2) → te σ H1 Q
def EvMt (te : TE) (σ : St) (H : Hp) (n : Nat) (M : Nat → Nat → Int) : Prop := ∀ H1, Same H H1 → ∀ Q : VK, (∀ a H2, Same H1 H2 → Mt H1 H2 a n M → Q (.ref a) H2) → te σ H1 Q
theorem EvF.is {xs ys : List V} (h : EvF te σ H xs) (e : xs = ys) : EvF te σ H ys := e ▸ h
theorem ef_lc {g : TG} {vs : List Nat} {ns : List Int} (hI : EvI K wi σ H items) (f : Nat → Bool) (v : Nat → PyData) (hv : givenD items.length f v = ns.map .int) (hn : items.length ≤ 10000000) (htd : ∀ j, j < items.length → f j = true → TD (v j) = true)
    (hs : ∀ i d x H1, items[i]? = some d → Same H H1 → Dp K H1 x d → ∃ σ2, wipe σ2 vs = wipe σ vs ∧ (∀ Q : St → Hp → Prop, Q σ2 H1 → g x (wipe σ vs) H1 Q) ∧ EvB t σ2 H1 (f i) ∧ (f i = true → EvD K te σ2 H1 (v i))) :
    EvF (tLc wi g t te vs) σ H (ns.map V.int) := fun H0 e Q q => by
  refine hI H0 e _ fun J G Y H1 e1 w hG hY D hD => ?_
  refine lc_it w (Cw K H1 D items.length f v) (cw0 hD) (fun i H' _ p => hG H' p.2.1) (fun i x Ha Hb hi p y => ?_) (fun H' p => ?_)
  · obtain ⟨eab, d, hd, hx⟩ := hY i x Ha Hb hi p.2.1 y
    obtain ⟨σ2, h1, h2, h3, h4⟩ := hs i d x Hb hd (((e.trans e1).trans p.2.1).trans eab) hx
    exact h2 _ ⟨h1, cw_turn hn hi p htd eab h3 h4⟩
  · obtain ⟨p1, p2, ws, p3, p4⟩ := p
    rw [hv] at p4
    have ew := dps_ints p4
    subst ew
    exact q D H' (Same.free e1 hD) (e1.trans p2) p3
theorem ef_lcN {j : Nat} {vs : List Nat} {ns : List Int} (hI : EvI K wi σ H items) (f : Nat → Bool) (v : Nat → PyData) (hv : givenD items.length f v = ns.map .int) (hw : ∀ x, wipe ((wipe σ vs).set j (some x)) vs = wipe σ vs) (hn : items.length ≤ 10000000) (htd : ∀ j, j < items.length → f j = true → TD (v j) = true)
    (hs : ∀ i d x H1, items[i]? = some d → Same H H1 → Dp K H1 x d → EvB t ((wipe σ vs).set j (some x)) H1 (f i) ∧ (f i = true → EvD K te ((wipe σ vs).set j (some x)) H1 (v i))) :
    EvF (tLc wi (gName j) t te vs) σ H (ns.map V.int) :=
  ef_lc hI f v hv hn htd fun i d x H1 h1 h2 h3 => ⟨_, hw x, fun Q q => q, hs i d x H1 h1 h2 h3⟩
/-- the word of a table's making -/
def Rw (H : Hp) (D : Addr) (n : Nat) (M : Nat → Nat → Int) (i : Nat) (H' : Hp) : Prop := H D = none ∧ Same H H' ∧ ∃ ps : List Addr, H' D = some (.lst (ps.map V.ref)) ∧ ps.length = i ∧ ps.Nodup ∧ D ∉ ps ∧ (∀ p ∈ ps, H p = none) ∧ ∀ j p, ps[j]? = some p → H' p = some (.lst (rowV n (M j)))
theorem emt_lc {j n : Nat} {vs : List Nat} {M : Nat → Nat → Int} (hI : EvI K wi σ H items) (hl : items.length = n) (hn : n ≤ 1000000) (hw : ∀ x, wipe ((wipe σ vs).set j (some x)) vs = wipe σ vs)
    (hs : ∀ i d x H1, items[i]? = some d → Same H H1 → Dp K H1 x d → EvF te ((wipe σ vs).set j (some x)) H1 (rowV n (M i))) : EvMt (tLc wi (gName j) tYes te vs) σ H n M := fun H0 e Q q => by
  refine hI H0 e _ fun J G Y H1 e1 w hG hY D hD => ?_
  refine lc_it w (Rw H1 D n M) ⟨hD, same_new hD, [], upd_same, rfl, List.nodup_nil, by simp, (fun p hp => absurd hp (by simp)), (fun j p hp => by simp at hp)⟩ (fun i H' _ p => hG H' p.2.1) (fun i x Ha Hb hi p y => ?_) (fun H' p => ?_)
  · obtain ⟨eab, d, hd, hx⟩ := hY i x Ha Hb hi p.2.1 y
    have hf := hs i d x Hb hd (((e.trans e1).trans p.2.1).trans eab) hx
    obtain ⟨p1, p2, ps, p3, p4, p5, p6, p7, p8⟩ := p
    refine ⟨hw x, ?_⟩
    show if true = true then te ((wipe σ vs).set j (some x)) Hb (fun y H4 => ∃ acc, H4 D = some (.lst acc) ∧ acc.length < sizeLine ∧ Rw H1 D n M (i + 1) (upd H4 D (.lst (acc ++ [y])))) else Rw H1 D n M (i + 1) Hb
    rw [if_pos rfl]
    refine hf Hb (Same.refl _) _ fun r H4 hr e4 h4 => ⟨ps.map V.ref, e4 _ _ (eab _ _ p3), ?_, ?_⟩
    · rw [List.length_map]
      exact smlt (by omega)
    have hrH1 : H1 r = none := Same.free (p2.trans eab) hr
    have hDb : Hb D = some (.lst (ps.map V.ref)) := eab _ _ p3
    have hrD : r ≠ D := fun z => by rw [z, hDb] at hr; cases hr
    have hrps : r ∉ ps := fun hm => by
      obtain ⟨k, hk⟩ := List.getElem?_of_mem hm
      have z := eab _ _ (p8 k r hk)
      rw [z] at hr
      cases hr
    refine ⟨p1, same_mut ((p2.trans eab).trans e4) p1, ps ++ [r], ?_, by rw [List.length_append, p4] <;> rfl, ?_, ?_, ?_, ?_⟩
    · rw [upd_same, List.map_append] <;> rfl
    · exact List.nodup_append.mpr ⟨p5, (by simp), fun a ha b hb z => hrps (by rw [List.mem_singleton.mp hb] at z; rw [← z]; exact ha)⟩
    · intro hm
      rcases (List.mem_append).mp hm with hm | hm
      · exact p6 hm
      · exact hrD (List.mem_singleton.mp hm).symm
    · intro p hp
      rcases List.mem_append.mp hp with hm | hm
      · exact p7 p hm
      · rw [List.mem_singleton.mp hm]; exact hrH1
    · intro k p hk
      by_cases hlt : k < ps.length
      · rw [List.getElem?_append_left hlt] at hk
        have hp' : p ≠ D := fun z => p6 (z ▸ List.mem_of_getElem? hk)
        rw [upd_ne hp']
        exact e4 _ _ (eab _ _ (p8 k p hk))
      · rw [List.getElem?_append_right (by omega)] at hk
        have hz : k - ps.length = 0 := by
          have := (List.getElem?_eq_some_iff.mp hk).1
          simp at this
          omega
        rw [hz] at hk
        cases hk
        have ek : k = i := by omega
        rw [upd_ne hrD, ek]
        exact h4
  · obtain ⟨p1, p2, ps, p3, p4, p5, p6, p7, p8⟩ := p
    refine q D H' (e1.trans p2) ⟨ps, p3, Same.free e1 p1, by omega, p5, p6, fun p hp => Same.free e1 (p7 p hp), p8⟩
theorem q_asgMt {n i : Nat} {M : Nat → Nat → Int} {tz : TS} (h : EvMt te σ H n M) (k : ∀ a H1, Same H H1 → Mt H H1 a n M → tz D (σ.set i (some (.ref a))) H1) : tSeq (tAsg te (gName i)) tz D σ H := h H (Same.refl _) _ k
theorem s_retMt {n : Nat} {M : Nat → Nat → Int} (h : EvMt te σ H n M) (k : ∀ a H1, Same H H1 → Mt H H1 a n M → D.rt (.ref a) H1) : tRet te D σ H := h H (Same.refl _) _ k
theorem mt_in {a : Addr} {n i : Nat} {M : Nat → Nat → Int} (h : Mt Hb H a n M) (hi : i < n) : ∃ (ps : List Addr) (p : Addr), H a = some (.lst (ps.map V.ref)) ∧ ps[i]? = some p ∧ H p = some (.lst (rowV n (M i))) := by
  obtain ⟨ps, h1, h2, h3, h4, h5, h6, h7⟩ := h
  have hp := List.getElem?_eq_getElem (l := ps) (i := i) (by omega)
  exact ⟨ps, _, h1, hp, h7 _ _ hp⟩
theorem mt_set {a : Addr} {n i j : Nat} {v : Int} {M : Nat → Nat → Int} {p : Addr} {ps : List Addr} (e : Same Hb H) (h : Mt Hb H a n M) (ha : H a = some (.lst (ps.map V.ref))) (hp : ps[i]? = some p) :
    Same Hb (upd H p (.lst ((rowV n (M i)).set j (.int v)))) ∧ Mt Hb (upd H p (.lst ((rowV n (M i)).set j (.int v)))) a n (upd2 M i j v) := by
  obtain ⟨qs, h1, h2, h3, h4, h5, h6, h7⟩ := h
  have eq : qs = ps := by
    rw [h1] at ha
    have z : qs.map V.ref = ps.map V.ref := by injection (Option.some.inj ha)
    exact (List.map_inj_right (fun x y q => by injection q)).mp z
  subst eq
  have hm := List.mem_of_getElem? hp
  have hap : a ≠ p := fun z => h5 (z ▸ hm)
  refine ⟨same_mut e (h6 p hm), qs, by rw [upd_ne hap]; exact h1, h2, h3, h4, h5, h6, fun k r hk => ?_⟩
  by_cases hr : r = p
  · have hki : k = i := nd_ix h4 hk (by rw [hr]; exact hp)
    subst hki
    rw [hr, upd_same, rowV_set]
  · rw [upd_ne hr]
    have hki : k ≠ i := fun z => by
      rw [z, hp] at hk
      exact hr (Option.some.inj hk).symm
    rw [upd2_ne hki]
    exact h7 k r hk
/-- rows[x][y] = e -/
theorem s_setM {a : Addr} {n i j r x y : Nat} {v : Int} {M : Nat → Nat → Int} (hr : σ[r]? = some (some (.ref a))) (hx : σ[x]? = some (some (.int (i : Int)))) (hy : σ[y]? = some (some (.int (j : Int)))) (hi : i < n) (hj : j < n)
    (e : Same Hb H) (h : Mt Hb H a n M) (hv : EvD K te σ H (.int v)) (k : ∀ H', Same Hb H' → Mt Hb H' a n (upd2 M i j v) → D.nx σ H') :
    tAsg te (gSub (tOp (rIxL K) (tVar r) (tVar x)) (tVar y) rSetL) D σ H := hv H (Same.refl _) _ fun w H1 e1 p => by
  rw [dp_int p]
  have h' := h.same e1
  obtain ⟨ps, q, h1, h2, h3⟩ := mt_in h' hi
  obtain ⟨z1, z2⟩ := mt_set (v := v) (j := j) (e.trans e1) h' h1 h2
  refine ⟨_, hr, _, hx, a, ps.map V.ref, i, .ref q, rfl, rfl, SqL.of h1, atI_nat (by rw [List.getElem?_map, h2] <;> rfl), _, hy, q, rowV n (M i), j, j, rfl, rfl, h3, ?_, k _ z1 z2⟩
  rw [rowV_len]
  exact Evl.ixN_nat hj
end
section
variable {P : Program} {w : World} {K : PySem.W.Frag} {mg : Str → Option Value} {base : Heap}
def farOf (R : List Road) : Int := 1 + (R.map (·.2.2)).sum
def m0 (far : Int) : Nat → Nat → Int := fun i j => if i = j then 0 else far
def fwOf (n : Nat) (R : List Road) : Nat → Nat → Int := fwK n n (setRoads R (m0 (farOf R)))
def R_rt (ds : List PyData) (r : PyData) : Prop := ∃ (n : Nat) (ws : List Int) (R : List Road), ds = [webD ws R] ∧ ws.length = n ∧ n ≤ 100 ∧ R.length ≤ 100 ∧ (∀ x ∈ R, x.1 < n ∧ x.2.1 < n) ∧ (∀ i j, i < n → j < n → fwOf n R i j ≠ farOf R) ∧ r = rowsD n (fwOf n R)
theorem sc_rt : FnScope ["oneway", "count", "a", "b", "length", "far", "i", "j", "rows", "k", "row", "x"] ["oneway"] (defScope s_rt) := ⟨rfl, rfl, rfl, by decide +kernel, rfl, by decide +kernel, by decide +kernel⟩
theorem roads_get {R : List Road} {i : Nat} {d : PyData} (h : (R.map roadD)[i]? = some d) : ∃ r, R[i]? = some r ∧ d = .tuple [.int (r.1 : Int), .int (r.2.1 : Int), .int r.2.2] := by
  rw [List.getElem?_map] at h
  obtain ⟨y, hy, rfl⟩ := Option.map_eq_some_iff.mp h
  exact ⟨y, hy, rfl⟩
theorem c_rt (T : TB mg) (D : DefAt K mg "rows_there" ["oneway"] s_rt) : Cal P w K mg base 1 "rows_there" ["oneway"] (SpD K R_rt) := by
  refine D.cal sc_rt (SpD.len fun ds r h => ?_) (fun f cdv A outer s H vs Q E hr h => ?_)
  · obtain ⟨_, _, _, rfl, _⟩ := h
    rfl
  obtain ⟨ds, r, hv, ⟨n, ws, R, rfl, g1, g2, g3, g4, g5, rfl⟩, q⟩ := h
  obtain ⟨v1, rfl, h1⟩ := dps1 hv
  refine ⟨_, (pss_cons (ps_set (i := 1) sc_rt.nd rfl (Or.inr rfl) (pe_callB (k_len K) rfl T.len (by decide +kernel) (pa_cons (pe_ix (k_ixT K) (pv 0) pe_int (fun _ _ => rfl)) pa_nil)))
    (pss_cons (ps_set (i := 5) sc_rt.nd rfl (Or.inr rfl) (pe_op op_add pe_int (pe_callB (k_sum K) rfl T.sum (by decide +kernel) (pa_cons (pe_lc (own := [("a", 2), ("b", 3), ("length", 4)]) (g := (gTup K 3 (gCons (gName 2) (gCons (gName 3) (gCons (gName 4) gNil))))) rfl sc_rt.nd (k_pitup K (pe_ix (k_ixT K) (pv 0) pe_int (fun _ _ => rfl))) (blkOk_by (own := [("a", 2), ("b", 3), ("length", 4)]) (N := ["oneway", "count", "a", "b", "length", "far", "i", "j", "rows", "k", "row", "x"]) (sc := defScope s_rt) (by decide +kernel)) (fun _ _ _ _ _ => (k_gtup K (pgs_cons (pg_name (i := 2) sc_rt.nd rfl (Or.inl rfl)) (pgs_cons (pg_name (i := 3) sc_rt.nd rfl (Or.inl rfl)) (pgs_cons (pg_name (i := 4) sc_rt.nd rfl (Or.inl rfl)) pgs_nil))))) (fun _ _ _ _ _ => pts_nil) (fun _ _ _ _ _ => (pv 4))) pa_nil))))
    (pss_cons (ps_setLc (i := 8) (own := [("i", 6)]) (g := (gName 6)) rfl sc_rt.nd rfl rfl (sw_true rfl rfl rfl (by decide +kernel)) (pi_range1 rfl T.range (pa_cons (pv 1) pa_nil)) (blkOk_by (own := [("i", 6)]) (N := ["oneway", "count", "a", "b", "length", "far", "i", "j", "rows", "k", "row", "x"]) (sc := defScope s_rt) (by decide +kernel)) (fun _ _ _ _ _ => (pg_name (i := 6) sc_rt.nd rfl (Or.inr rfl))) (fun _ _ _ _ _ => pts_nil) (fun _ _ _ _ _ => (pe_lc (own := [("j", 7)]) (g := (gName 7)) rfl sc_rt.nd (pi_range1 rfl T.range (pa_cons (pv 1) pa_nil)) (blkOk_by (own := [("j", 7)]) (N := ["oneway", "count", "a", "b", "length", "far", "i", "j", "rows", "k", "row", "x"]) (sc := relS (scp (retE ((defBody s_rt).getD 2 (.Pass ⟨0, 0, 0, 0⟩)))) (defScope s_rt)) (by decide +kernel)) (fun _ _ _ _ _ => (pg_name (i := 7) sc_rt.nd rfl (Or.inl rfl))) (fun _ _ _ _ _ => pts_nil) (fun _ _ _ _ _ => (pe_ifExp (pt_cmpR op_eq (pv 6) (pv 7) (nomark _)) pe_int (pv 5))))))
    (pss_cons (ps_for PassesOwn.never rfl (k_pitup K (pe_ix (k_ixT K) (pv 0) pe_int (fun _ _ => rfl))) (k_gtup K (pgs_cons (pg_name (i := 2) sc_rt.nd rfl (Or.inl rfl)) (pgs_cons (pg_name (i := 3) sc_rt.nd rfl (Or.inl rfl)) (pgs_cons (pg_name (i := 4) sc_rt.nd rfl (Or.inl rfl)) pgs_nil))))
      (pss_one (ps_asg (pv 4) (pg_sub (pe_ix (k_ixL K) (pv 8) (pv 2) (fun _ _ => rfl)) (pv 3) set_list))))
    (pss_cons (ps_for PassesOwn.never rfl (pi_range1 rfl T.range (pa_cons (pv 1) pa_nil)) (pg_name (i := 9) sc_rt.nd rfl (Or.inl rfl))
      (pss_one (ps_for PassesOwn.never rfl (pi_range1 rfl T.range (pa_cons (pv 1) pa_nil)) (pg_name (i := 6) sc_rt.nd rfl (Or.inl rfl))
      (pss_one (ps_for PassesOwn.never rfl (pi_range1 rfl T.range (pa_cons (pv 1) pa_nil)) (pg_name (i := 7) sc_rt.nd rfl (Or.inl rfl))
      (pss_one (ps_asg (pe_callB k_min2 rfl T.min (by decide +kernel) (pa_cons (pe_ix (k_ixL K) (pe_ix (k_ixL K) (pv 8) (pv 6) (fun _ _ => rfl)) (pv 7) (fun _ _ => rfl)) (pa_cons (pe_op op_add (pe_ix (k_ixL K) (pe_ix (k_ixL K) (pv 8) (pv 6) (fun _ _ => rfl)) (pv 9) (fun _ _ => rfl)) (pe_ix (k_ixL K) (pe_ix (k_ixL K) (pv 8) (pv 9) (fun _ _ => rfl)) (pv 7) (fun _ _ => rfl))) pa_nil))) (pg_sub (pe_ix (k_ixL K) (pv 8) (pv 6) (fun _ _ => rfl)) (pv 7) set_list))))))))
    (pss_one (ps_ret (pe_lc (own := [("row", 10)]) (g := (gName 10)) rfl sc_rt.nd (k_pilist K (pv 8)) (blkOk_by (own := [("row", 10)]) (N := ["oneway", "count", "a", "b", "length", "far", "i", "j", "rows", "k", "row", "x"]) (sc := defScope s_rt) (by decide +kernel)) (fun _ _ _ _ _ => (pg_name (i := 10) sc_rt.nd rfl (Or.inl rfl))) (fun _ _ _ _ _ => pts_nil) (fun _ _ _ _ _ => (pe_lc (own := [("x", 11)]) (g := (gName 11)) rfl sc_rt.nd (k_pilist K (pv 10)) (blkOk_by (own := [("x", 11)]) (N := ["oneway", "count", "a", "b", "length", "far", "i", "j", "rows", "k", "row", "x"]) (sc := relS (scp (retE ((defBody s_rt).getD 5 (.Pass ⟨0, 0, 0, 0⟩)))) (defScope s_rt)) (by decide +kernel)) (fun _ _ _ _ _ => (pg_name (i := 11) sc_rt.nd rfl (Or.inl rfl))) (fun _ _ _ _ _ => pts_nil) (fun _ _ _ _ _ => (pe_ifExp (pt_cmpR op_eq (pv 11) (pv 5) (nomark _)) pe_non (pv 11))))))))))))), ?_⟩
  have hlw : (ws.map PyData.int).length = n := by rw [List.length_map, g1]
  have hlr : (R.map roadD).length = R.length := List.length_map _
  refine q_asgI (n := (n : Int)) (ep_cb (ea_cons (ed_op (ed_var rfl h1) ed_int (ro_ixT (d := intsD ws) rfl)) ea_nil) (rc_lenT hlw)) fun H1 e1 => ?_
  have h1a := dp_same e1 _ _ h1
  refine q_asgI (n := farOf R) (ed_op ed_int (ep_cb (ds := [.list ((R.map (·.2.2)).map .int)]) (ea_cons (EvM.toD (EvM.is (em_lc (K := K) (ei_tupIx rfl h1a rfl).i (fun _ => true) (fun k => .int ((R.map (·.2.2)).getD k 0)) (by rw [hlr]; omega) (fun _ _ _ => rfl) fun i e x H2 he e2 hx => ?_) ?_)) ea_nil) rc_sum) ro_add) fun H2 e2 => ?_
  · obtain ⟨y, hy, rfl⟩ := roads_get he
    obtain ⟨x1, x2, x3, y1, y2, y3, hq⟩ := g_tup3 (σ := wipe ((start ["oneway", "count", "a", "b", "length", "far", "i", "j", "rows", "k", "row", "x"] [v1]).set 1 (some (V.int (n : Int)))) [2, 3, 4]) (i := 2) (j := 3) (k := 4) hx
    cases y3
    refine ⟨_, ?_, hq, eb_yes, fun _ => EvD.is (ed_vari rfl) ?_⟩
    · rfl
    · rw [getD_mapI hy]
  · rw [givenD_all, hlr]
    exact range_mapF R (·.2.2) 0 PyData.int
  have h1b := dp_same e2 _ _ h1a
  refine q_asgMt (emt_lc (K := K) (n := n) (M := m0 (farOf R)) (ei_rng1 (n := n) (ea_cons (ed_vari rfl) ea_nil) (by omega)).i (rngD_len 0 n) (by omega) (fun _ => rfl) fun i d x H3 hd e3 hx => ?_) fun a H3 e3 hM => ?_
  · obtain ⟨hi, rfl⟩ := rngD_get' hd
    have e0 : (0 : Int) + (i : Int) = (i : Int) := Int.zero_add (i : Int)
    rw [e0] at hx
    cases hx
    rw [rowV_ints]
    refine ef_lcN (K := K) (ei_rng1 (n := n) (ea_cons (ed_vari rfl) ea_nil) (by omega)).i (fun _ => true) (fun j => .int (m0 (farOf R) i j)) (by rw [givenD_all, rngD_len, List.map_map]; rfl) (fun _ => rfl) (by rw [rngD_len]; omega) (fun _ _ _ => rfl) fun j d y H4 hd2 e4 hy => ⟨eb_yes, fun _ => ?_⟩
    obtain ⟨hj, rfl⟩ := rngD_get' hd2
    have e0 : (0 : Int) + (j : Int) = (j : Int) := Int.zero_add _
    rw [e0] at hy
    cases hy
    refine ep_if (b := decide (i = j)) (EvB.is (eb_test (K := K) (ed_op (ed_vari rfl) (ed_vari rfl) ro_eq)) ?_) (fun hb => ?_) fun hb => ?_
    · by_cases z : i = j
      · rw [decide_eq_true z, decide_eq_true (by omega)]
      · rw [decide_eq_false z, decide_eq_false (by omega)]
    · refine EvD.is ed_int ?_
      show _ = PyData.int (if i = j then 0 else farOf R)
      rw [if_pos (of_decide_eq_true hb)]
    · refine EvD.is (ed_vari rfl) ?_
      show _ = PyData.int (if i = j then 0 else farOf R)
      rw [if_neg (of_decide_eq_false hb)]
  -- the roads
  have h1c := dp_same e3 _ _ h1b
  refine q_for (K := K) (H0 := H2) (ei_tupIx rfl h1b rfl) e3 (fun i σ' H' => Same H2 H' ∧ Mt H2 H' a n (setRoads (R.take i) (m0 (farOf R))) ∧ ∃ u2 u3 u4 : Option V, σ' = [some v1, some (.int (n : Int)), u2, u3, u4, some (.int (farOf R)), none, none, some (.ref a), none, none, none])
    (fun H4 e4 => ⟨e3.trans e4, hM.same e4, none, none, none, rfl⟩) (fun i σ' H' _ p => p.1) (fun i d x σ' H' H4 hd p e4 hx => ?_) fun σ' H' p => ?_
  · obtain ⟨p1, p2, u2, u3, u4, rfl⟩ := p
    obtain ⟨y, hy, rfl⟩ := roads_get hd
    have gy := g4 y (List.mem_of_getElem? hy)
    obtain ⟨x1, x2, x3, y1, y2, y3, hq⟩ := g_tup3 (σ := [some v1, some (.int (n : Int)), u2, u3, u4, some (.int (farOf R)), none, none, some (.ref a), none, none, none]) (i := 2) (j := 3) (k := 4) hx
    cases y1
    cases y2
    cases y3
    refine hq _ (s_setM (K := K) (i := y.1) (j := y.2.1) (v := y.2.2) rfl rfl rfl gy.1 gy.2 (p1.trans e4) (p2.same e4) (ed_vari rfl) fun H5 e5 m5 => ⟨e5, ?_, _, _, _, rfl⟩)
    unfold setRoads
    rw [foldl_take _ _ hy]
    exact m5
  obtain ⟨p1, p2, u2, u3, u4, rfl⟩ := p
  rw [hlr, List.take_length] at p2
  -- the three loops
  refine q_for (K := K) (H0 := H2) (ei_rng1 (n := n) (ea_cons (ed_vari rfl) ea_nil) (by omega)) p1 (fun k σ' H' => Same H2 H' ∧ Mt H2 H' a n (fwK n k (setRoads R (m0 (farOf R)))) ∧ ∃ u6 u7 u9 : Option V, σ' = [some v1, some (.int (n : Int)), u2, u3, u4, some (.int (farOf R)), u6, u7, some (.ref a), u9, none, none])
    (fun H4 e4 => ⟨p1.trans e4, p2.same e4, none, none, none, rfl⟩) (fun i σ' H' _ p => p.1) (fun k d x σ' H5 H6 hd p e6 hx => ?_) fun σ' H5 p => ?_
  · obtain ⟨hk, rfl⟩ := rngD_get' hd
    have e0 : (0 : Int) + (k : Int) = (k : Int) := Int.zero_add _
    rw [e0] at hx
    cases hx
    obtain ⟨r1, r2, u6, u7, u9, rfl⟩ := p
    refine s_for (K := K) (H0 := H2) (ei_rng1 (n := n) (ea_cons (ed_vari rfl) ea_nil) (by omega)) (r1.trans e6) (fun i σ' H' => Same H2 H' ∧ Mt H2 H' a n (fwI n k i (fwK n k (setRoads R (m0 (farOf R))))) ∧ ∃ u6 u7 : Option V, σ' = [some v1, some (.int (n : Int)), u2, u3, u4, some (.int (farOf R)), u6, u7, some (.ref a), some (.int (k : Int)), none, none])
      (fun H4 e4 => ⟨(r1.trans e6).trans e4, r2.same (e6.trans e4), u6, u7, rfl⟩) (fun i σ' H' _ p => p.1) (fun i d x σ' H7 H8 hd p e8 hx => ?_) fun σ' H7 p => ?_
    · obtain ⟨hi, rfl⟩ := rngD_get' hd
      have e0 : (0 : Int) + (i : Int) = (i : Int) := Int.zero_add (i : Int)
      rw [e0] at hx
      cases hx
      obtain ⟨t1, t2, u6, u7, rfl⟩ := p
      refine s_for (K := K) (H0 := H2) (ei_rng1 (n := n) (ea_cons (ed_vari rfl) ea_nil) (by omega)) (t1.trans e8) (fun j σ' H' => Same H2 H' ∧ Mt H2 H' a n ((List.range j).foldl (fun M j => upd2 M i j (min (M i j) (M i k + M k j))) (fwI n k i (fwK n k (setRoads R (m0 (farOf R)))))) ∧ ∃ u7 : Option V, σ' = [some v1, some (.int (n : Int)), u2, u3, u4, some (.int (farOf R)), some (.int (i : Int)), u7, some (.ref a), some (.int (k : Int)), none, none])
        (fun H4 e4 => ⟨(t1.trans e8).trans e4, t2.same (e8.trans e4), u7, rfl⟩) (fun i σ' H' _ p => p.1) (fun j d x σ' H9 Ha hd p ea hx => ?_) fun σ' H9 p => ?_
      · obtain ⟨hj, rfl⟩ := rngD_get' hd
        have e0 : (0 : Int) + (j : Int) = (j : Int) := Int.zero_add _
        rw [e0] at hx
        cases hx
        obtain ⟨w1, w2, u7, rfl⟩ := p
        generalize hM' : (List.range j).foldl (fun M j => upd2 M i j (min (M i j) (M i k + M k j))) (fwI n k i (fwK n k (setRoads R (m0 (farOf R))))) = M' at w2
        have hd' : Dp K Ha (.ref a) (rowsD n M') := (w2.same ea).dp
        refine s_setM (K := K) (i := i) (j := j) (v := min (M' i j) (M' i k + M' k j)) rfl rfl rfl hi hj (w1.trans ea) (w2.same ea) (ep_cb (ea_cons (ed_op (ed_op (ed_var rfl hd') (ed_vari rfl) (ro_ixL (rows_at hi))) (ed_vari rfl) (ro_ixL (row_at hj))) (ea_cons (ed_op (ed_op (ed_op (ed_var rfl hd') (ed_vari rfl) (ro_ixL (rows_at hi))) (ed_vari rfl) (ro_ixL (row_at hk))) (ed_op (ed_op (ed_var rfl hd') (ed_vari rfl) (ro_ixL (rows_at hk))) (ed_vari rfl) (ro_ixL (row_at hj))) ro_add) ea_nil)) rc_min2) fun Hc ec mc => ⟨ec, ?_, _, rfl⟩
        rw [foldl_succ, hM']
        exact mc
      · obtain ⟨w1, w2, u7, rfl⟩ := p
        rw [rngD_len] at w2
        refine ⟨w1, ?_, _, _, rfl⟩
        unfold fwI
        rw [foldl_succ]
        exact w2
    · obtain ⟨t1, t2, u6, u7, rfl⟩ := p
      rw [rngD_len] at t2
      refine ⟨t1, ?_, _, _, _, rfl⟩
      unfold fwK
      rw [foldl_succ]
      exact t2
  obtain ⟨r1, r2, u6, u7, u9, rfl⟩ := p
  rw [rngD_len] at r2
  have hd' : Dp K H5 (.ref a) (rowsD n (fwOf n R)) := r2.dp
  refine s_retMt (emt_lc (K := K) (n := n) (M := fwOf n R) (ei_lstV rfl hd').i (by rw [List.length_map, List.length_range]) (by omega) (fun _ => rfl) fun i d x H6 hd e6 hx => ?_) fun b H6 e6 hM6 => ?_
  · have hi : i < n := by
      have z := (List.getElem?_eq_some_iff.mp hd).1
      rw [List.length_map, List.length_range] at z
      exact z
    rw [List.getElem?_map, List.getElem?_range hi] at hd
    cases hd
    rw [rowV_ints]
    refine ef_lcN (K := K) (ei_lstV rfl hx).i (fun _ => true) (fun j => .int (fwOf n R i j)) (by rw [givenD_all, List.length_map, List.length_range, List.map_map]; rfl) (fun _ => rfl) (by rw [List.length_map, List.length_range]; omega) (fun _ _ _ => rfl) fun j d y H7 hd2 e7 hy => ⟨eb_yes, fun _ => ?_⟩
    have hj : j < n := by
      have z := (List.getElem?_eq_some_iff.mp hd2).1
      rw [List.length_map, List.length_range] at z
      exact z
    rw [List.getElem?_map, List.getElem?_range hj] at hd2
    cases hd2
    cases hy
    exact ep_if (b := false) (EvB.is (eb_test (K := K) (ed_op (ed_vari rfl) (ed_vari rfl) ro_eq)) (decide_eq_false (g5 i j hi hj))) (fun z => nomatch z) fun _ => ed_vari rfl
  · exact q _ H6 ((((e1.trans e2).trans r1)).trans e6) hM6.dp
end
end K7
/-! ### part 4: both tables are the distances -/
namespace K7
section
variable {R : List Road} {n : Nat} {ws : List Int} {d : Nat → Nat → Int}
theorem Walk.trans {i x j : Nat} {L1 L2 : Int} (h : Walk R i x L1) (g : Walk R x j L2) : Walk R i j (L1 + L2) := by
  induction h with
  | nil i => rw [Int.zero_add]; exact g
  | cons m _ ih => rw [Int.add_assoc]; exact .cons m (ih g)
theorem Walk.one {i j : Nat} {l : Int} (h : (i, j, l) ∈ R) : Walk R i j l := by
  have z := Walk.cons h (Walk.nil j)
  rw [Int.add_zero] at z
  exact z
theorem Walk.snoc {i x j : Nat} {L l : Int} (h : Walk R i x L) (m : (x, j, l) ∈ R) : Walk R i j (L + l) := h.trans (Walk.one m)
theorem Walk.nonneg {i j : Nat} {L : Int} (hR : ∀ r ∈ R, 0 ≤ r.2.2) (h : Walk R i j L) : 0 ≤ L := by
  induction h with
  | nil => exact Int.le_refl _
  | cons m _ ih =>
    have z := hR _ m
    exact Int.add_nonneg z ih
theorem Walk.last {i j : Nat} {L : Int} (h : Walk R i j L) : (i = j ∧ L = 0) ∨ ∃ u l L', Walk R i u L' ∧ (u, j, l) ∈ R ∧ L' + l = L := by
  induction h with
  | nil i => exact .inl ⟨rfl, rfl⟩
  | @cons i x j l L m _ ih =>
    rcases ih with ⟨rfl, rfl⟩ | ⟨u, l', L', h1, h2, h3⟩
    · exact .inr ⟨i, l, 0, .nil i, m, by omega⟩
    · exact .inr ⟨u, l', l + L', .cons m h1, h2, by omega⟩
inductive Via (R : List Road) (k : Nat) : Nat → Nat → Int → Prop
  | nil (i : Nat) : Via R k i i 0
  | one {i j : Nat} {l : Int} : (i, j, l) ∈ R → Via R k i j l
  | step {i x j : Nat} {l L : Int} : (i, x, l) ∈ R → x < k → Via R k x j L → Via R k i j (l + L)
theorem Via.nonneg {k i j : Nat} {L : Int} (hR : ∀ r ∈ R, 0 ≤ r.2.2) (h : Via R k i j L) : 0 ≤ L := by
  induction h with
  | nil => exact Int.le_refl _
  | one m => exact hR _ m
  | step m _ _ ih => exact Int.add_nonneg (hR _ m) ih
theorem Via.cut {k i j : Nat} {L : Int} (hR : ∀ r ∈ R, 0 ≤ r.2.2) (h : Via R (k + 1) i j L) : (∃ L', Via R k i j L' ∧ L' ≤ L) ∨ ∃ L1 L2, Via R k i k L1 ∧ Via R k k j L2 ∧ L1 + L2 ≤ L := by
  induction h with
  | nil i => exact .inl ⟨0, .nil i, Int.le_refl _⟩
  | one m => exact .inl ⟨_, .one m, Int.le_refl _⟩
  | @step i x j l L m hx _ ih =>
    by_cases e : x = k
    · subst e
      rcases ih with ⟨L', h1, h2⟩ | ⟨L1, L2, h1, h2, h3⟩
      · exact .inr ⟨l, L', .one m, h1, by omega⟩
      · have z := h1.nonneg hR
        exact .inr ⟨l, L2, .one m, h2, by omega⟩
    · have hx' : x < k := by omega
      rcases ih with ⟨L', h1, h2⟩ | ⟨L1, L2, h1, h2, h3⟩
      · exact .inl ⟨l + L', .step m hx' h1, by omega⟩
      · exact .inr ⟨l + L1, L2, .step m hx' h1, h2, by omega⟩
theorem Walk.via {i j : Nat} {L : Int} (hR : ∀ r ∈ R, r.2.1 < n) (h : Walk R i j L) : Via R n i j L := by
  induction h with
  | nil i => exact .nil i
  | cons m _ ih => exact .step m (hR _ m) ih
def MLe (M' M : Nat → Nat → Int) : Prop := ∀ i j, M' i j ≤ M i j
theorem MLe.trans {A B C : Nat → Nat → Int} (h : MLe A B) (g : MLe B C) : MLe A C := fun i j => Int.le_trans (h i j) (g i j)
theorem mle_upd {M : Nat → Nat → Int} {i j : Nat} {v : Int} (h : v ≤ M i j) : MLe (upd2 M i j v) M := fun i' j' => by
  unfold upd2
  by_cases e : i' = i ∧ j' = j
  · rw [if_pos e, e.1, e.2]; exact h
  · rw [if_neg e]; exact Int.le_refl _
theorem upd2_at {M : Nat → Nat → Int} {i j : Nat} {v : Int} : upd2 M i j v i j = v := if_pos ⟨rfl, rfl⟩
/-! the program's table -/
theorem fwJ_ok (k i : Nat) (M : Nat → Nat → Int) : ∀ m, MLe ((List.range m).foldl (fun M j => upd2 M i j (min (M i j) (M i k + M k j))) M) M ∧ ∀ j, j < m → (List.range m).foldl (fun M j => upd2 M i j (min (M i j) (M i k + M k j))) M i j ≤ M i k + M k j
  | 0 => ⟨fun _ _ => Int.le_refl _, fun j h => absurd h (Nat.not_lt_zero _)⟩
  | m + 1 => by
    obtain ⟨h1, h2⟩ := fwJ_ok k i M m
    rw [foldl_succ]
    generalize (List.range m).foldl (fun M j => upd2 M i j (min (M i j) (M i k + M k j))) M = M' at h1 h2 ⊢
    have z := mle_upd (M := M') (i := i) (j := m) (Int.min_le_left (M' i m) (M' i k + M' k m))
    refine ⟨z.trans h1, fun j hj => ?_⟩
    by_cases e : j = m
    · subst e
      show upd2 M' i j _ i j ≤ _
      rw [upd2_at]
      have a := h1 i k
      have b := h1 k j
      have c := Int.min_le_right (M' i j) (M' i k + M' k j)
      omega
    · exact Int.le_trans (z i j) (h2 j (by omega))
theorem fwI_ok (n k : Nat) (M : Nat → Nat → Int) : ∀ m, MLe (fwI n k m M) M ∧ ∀ i j, i < m → j < n → fwI n k m M i j ≤ M i k + M k j
  | 0 => ⟨fun _ _ => Int.le_refl _, fun i j h => absurd h (Nat.not_lt_zero _)⟩
  | m + 1 => by
    obtain ⟨h1, h2⟩ := fwI_ok n k M m
    have e0 : fwI n k (m + 1) M = fwJ n k m (fwI n k m M) := by unfold fwI; rw [foldl_succ]
    rw [e0]
    obtain ⟨g1, g2⟩ := fwJ_ok k m (fwI n k m M) n
    refine ⟨MLe.trans g1 h1, fun i j hi hj => ?_⟩
    by_cases e : i = m
    · subst e
      have z : fwJ n k i (fwI n k i M) i j ≤ fwI n k i M i k + fwI n k i M k j := g2 j hj
      have a := h1 i k
      have b := h1 k j
      omega
    · exact Int.le_trans (g1 i j) (h2 i j (by omega) hj)
def Up (R : List Road) (n k : Nat) (M : Nat → Nat → Int) : Prop := ∀ i j L, i < n → j < n → Via R k i j L → M i j ≤ L
theorem fwK_up (hR : ∀ r ∈ R, 0 ≤ r.2.2) (M : Nat → Nat → Int) (h : Up R n 0 M) : ∀ m, m ≤ n → Up R n m (fwK n m M)
  | 0, _ => h
  | m + 1, hm => fun i j L hi hj v => by
    have ih := fwK_up hR M h m (by omega)
    have e0 : fwK n (m + 1) M = fwI n m n (fwK n m M) := by unfold fwK; rw [foldl_succ]
    rw [e0]
    obtain ⟨g1, g2⟩ := fwI_ok n m (fwK n m M) n
    rcases v.cut hR with ⟨L', h1, h2⟩ | ⟨L1, L2, h1, h2, h3⟩
    · exact Int.le_trans (g1 i j) (Int.le_trans (ih i j L' hi hj h1) h2)
    · have a := ih i m L1 hi (by omega) h1
      have b := ih m j L2 (by omega) hj h2
      have c := g2 i j hi hj
      omega
def Low (R : List Road) (n : Nat) (far : Int) (M : Nat → Nat → Int) : Prop := ∀ i j, i < n → j < n → 0 ≤ M i j ∧ M i j ≤ far ∧ (Walk R i j (M i j) ∨ M i j = far)
theorem low_step {far : Int} {M : Nat → Nat → Int} {i j k : Nat} (h : Low R n far M) (hi : i < n) (hj : j < n) (hk : k < n) : Low R n far (upd2 M i j (min (M i j) (M i k + M k j))) := fun i' j' hi' hj' => by
  unfold upd2
  by_cases e : i' = i ∧ j' = j
  · rw [if_pos e, e.1, e.2]
    obtain ⟨a1, a2, a3⟩ := h i j hi hj
    obtain ⟨b1, b2, b3⟩ := h i k hi hk
    obtain ⟨c1, c2, c3⟩ := h k j hk hj
    by_cases z : M i j ≤ M i k + M k j
    · rw [Int.min_eq_left z]; exact ⟨a1, a2, a3⟩
    · rw [Int.min_eq_right (by omega)]
      refine ⟨by omega, by omega, .inl ?_⟩
      rcases b3 with b3 | b3
      · rcases c3 with c3 | c3
        · exact b3.trans c3
        · omega
      · omega
  · rw [if_neg e]; exact h i' j' hi' hj'
theorem fwK_low {far : Int} (M : Nat → Nat → Int) (h : Low R n far M) : ∀ m, m ≤ n → Low R n far (fwK n m M)
  | 0, _ => h
  | m + 1, hm => by
    have ih := fwK_low M h m (by omega)
    have e0 : fwK n (m + 1) M = fwI n m n (fwK n m M) := by unfold fwK; rw [foldl_succ]
    rw [e0]
    generalize fwK n m M = M1 at ih
    have hI : ∀ a, a ≤ n → Low R n far (fwI n m a M1) := by
      intro a
      induction a with
      | zero => exact fun _ => ih
      | succ a iha =>
        intro ha
        have z := iha (by omega)
        have e1 : fwI n m (a + 1) M1 = fwJ n m a (fwI n m a M1) := by unfold fwI; rw [foldl_succ]
        rw [e1]
        generalize fwI n m a M1 = M2 at z
        have hJ : ∀ b, b ≤ n → Low R n far ((List.range b).foldl (fun M j => upd2 M a j (min (M a j) (M a m + M m j))) M2) := by
          intro b
          induction b with
          | zero => exact fun _ => z
          | succ b ihb =>
            intro hb
            rw [foldl_succ]
            exact low_step (ihb (by omega)) (by omega) (by omega) (by omega)
        exact hJ n (Nat.le_refl _)
    exact hI n (Nat.le_refl _)
theorem setRoads_out {i j : Nat} : ∀ {R : List Road} {M : Nat → Nat → Int}, (∀ l, (i, j, l) ∉ R) → setRoads R M i j = M i j
  | [], _, _ => rfl
  | r :: R, M, h => by
    show setRoads R (upd2 M r.1 r.2.1 r.2.2) i j = M i j
    rw [setRoads_out fun l hl => h l (List.mem_cons_of_mem _ hl)]
    unfold upd2
    refine if_neg fun e => h r.2.2 ?_
    rw [e.1, e.2]
    exact List.mem_cons_self
theorem setRoads_in {i j : Nat} {l : Int} : ∀ {R : List Road} {M : Nat → Nat → Int}, (R.map fun r => (r.1, r.2.1)).Nodup → (i, j, l) ∈ R → setRoads R M i j = l
  | [], _, _, h => by cases h
  | r :: R, M, nd, h => by
    rw [List.map_cons, List.nodup_cons] at nd
    show setRoads R (upd2 M r.1 r.2.1 r.2.2) i j = l
    rcases (List.mem_cons).mp h with e | e
    · subst e
      rw [setRoads_out fun l' hl' => nd.1 (List.mem_map.mpr ⟨_, hl', rfl⟩)]
      exact upd2_at
    · exact setRoads_in nd.2 e
theorem le_sumL : ∀ {ls : List Int} {x : Int}, (∀ y ∈ ls, 0 ≤ y) → x ∈ ls → x ≤ ls.sum
  | [], _, _, h => by cases h
  | a :: r, x, h0, h => by
    have ha := h0 a List.mem_cons_self
    have hs : 0 ≤ r.sum := sum_nonneg fun y hy => h0 y (List.mem_cons_of_mem _ hy)
    rw [List.sum_cons]
    rcases (List.mem_cons).mp h with e | e
    · omega
    · have z := le_sumL (fun y hy => h0 y (List.mem_cons_of_mem _ hy)) e
      omega
where
  sum_nonneg : ∀ {ls : List Int}, (∀ y ∈ ls, 0 ≤ y) → 0 ≤ ls.sum
    | [], _ => by simp
    | a :: r, h => by
      rw [List.sum_cons]
      have h1 := h a List.mem_cons_self
      have h2 := sum_nonneg fun y hy => h y (List.mem_cons_of_mem _ hy)
      omega
theorem Web.len0 (W : Web n ws R d) : ∀ r ∈ R, 0 ≤ r.2.2 := fun r hr => by
  have z := (W.rd r hr).2.2.2.1
  omega
theorem Web.d0 (W : Web n ws R d) {i j : Nat} (hi : i < n) (hj : j < n) : 0 ≤ d i j := (W.dw i j hi hj).nonneg W.len0
theorem Web.dii (W : Web n ws R d) {i : Nat} (hi : i < n) : d i i = 0 := by
  have a := W.dl i i 0 hi hi (.nil i)
  have b := W.d0 hi hi
  omega
theorem Web.dsum (W : Web n ws R d) {i j : Nat} (hi : i < n) (hj : j < n) : d i j ≤ (R.map (·.2.2)).sum := by
  obtain ⟨L, h1, h2⟩ := W.con i j hi hj
  exact Int.le_trans (W.dl i j L hi hj h1) h2
theorem Web.step (W : Web n ws R d) {i u v : Nat} {l : Int} (hi : i < n) (m : (u, v, l) ∈ R) : d i v ≤ d i u + l := by
  have z := W.rd _ m
  exact W.dl i v _ hi z.2.1 ((W.dw i u hi z.1).snoc m)
theorem Web.stepL (W : Web n ws R d) {u v b : Nat} {l : Int} (hb : b < n) (m : (u, v, l) ∈ R) : d u b ≤ l + d v b := by
  have z := W.rd _ m
  exact W.dl u b _ z.1 hb (.cons m (W.dw v b z.2.1 hb))
theorem Web.pred (W : Web n ws R d) {i v : Nat} (hi : i < n) (hv : v < n) (hne : v ≠ i) : ∃ u l, (u, v, l) ∈ R ∧ u < n ∧ d i u + l = d i v := by
  rcases (W.dw i v hi hv).last with ⟨e, _⟩ | ⟨u, l, L', h1, h2, h3⟩
  · exact absurd e.symm hne
  · have hu := (W.rd _ h2).1
    have a := W.dl i u L' hi hu h1
    have b := W.step hi h2
    exact ⟨u, l, h2, hu, by omega⟩
theorem fw_web (W : Web n ws R d) : ∀ i j, i < n → j < n → fwOf n R i j = d i j ∧ d i j < farOf R := by
  have h0 := W.len0
  have hup : Up R n 0 (setRoads R (m0 (farOf R))) := fun i j L hi hj v => by
    cases v with
    | nil =>
      rw [setRoads_out fun l hl => (W.rd _ hl).2.2.1 rfl]
      show (if i = i then (0 : Int) else _) ≤ 0
      rw [if_pos rfl]
      exact Int.le_refl _
    | one m => rw [setRoads_in W.nd m]; exact Int.le_refl _
    | step _ hx _ => exact absurd hx (Nat.not_lt_zero _)
  have hsum : ∀ r ∈ R, r.2.2 ≤ (R.map (·.2.2)).sum := fun r hr => le_sumL (fun y hy => by
    obtain ⟨r', hr', rfl⟩ := List.mem_map.mp hy
    exact h0 r' hr') (List.mem_map.mpr ⟨r, hr, rfl⟩)
  have hs0 : 0 ≤ (R.map (·.2.2)).sum := le_sumL.sum_nonneg fun y hy => by
    obtain ⟨r', hr', rfl⟩ := List.mem_map.mp hy
    exact h0 r' hr'
  have hlow : Low R n (farOf R) (setRoads R (m0 (farOf R))) := fun i j hi hj => by
    by_cases e : ∃ l, (i, j, l) ∈ R
    · obtain ⟨l, hl⟩ := e
      rw [setRoads_in W.nd hl]
      have a := h0 _ hl
      have b := hsum _ hl
      exact ⟨a, by unfold farOf; simp only at b; omega, .inl (.one hl)⟩
    · rw [setRoads_out fun l hl => e ⟨l, hl⟩]
      unfold m0
      by_cases z : i = j
      · subst z
        rw [if_pos rfl]
        exact ⟨Int.le_refl _, by unfold farOf; omega, .inl (.nil i)⟩
      · rw [if_neg z]
        exact ⟨by unfold farOf; omega, Int.le_refl _, .inr rfl⟩
  intro i j hi hj
  have u := fwK_up h0 _ hup n (Nat.le_refl _) i j (d i j) hi hj ((W.dw i j hi hj).via fun r hr => (W.rd r hr).2.1)
  obtain ⟨l1, l2, l3⟩ := fwK_low _ hlow n (Nat.le_refl _) i j hi hj
  have s := W.dsum hi hj
  have hfar : d i j < farOf R := by unfold farOf; omega
  refine ⟨?_, hfar⟩
  show fwK n n _ i j = _
  rcases l3 with w | e
  · have z := W.dl i j _ hi hj w
    omega
  · omega
/-! the law's table -/
def rk (f : Nat → Int) (n v : Nat) : Nat := (List.range n).countP fun x => decide (f x < f v)
theorem countP_lt {α : Type} {p q : α → Bool} : ∀ {l : List α}, (∀ x ∈ l, p x = true → q x = true) → (∃ x ∈ l, q x = true ∧ p x = false) → l.countP p < l.countP q
  | [], _, h => by obtain ⟨x, hx, _⟩ := h; cases hx
  | a :: r, h, g => by
    have le : ∀ {l : List α}, (∀ x ∈ l, p x = true → q x = true) → l.countP p ≤ l.countP q := by
      intro l
      induction l with
      | nil => intro _; exact Nat.le_refl _
      | cons b s ih =>
        intro hb
        have i := ih fun x hx => hb x (List.mem_cons_of_mem _ hx)
        rw [List.countP_cons, List.countP_cons]
        have hb0 := hb b List.mem_cons_self
        cases hp : p b with
        | true => rw [hb0 hp]; simp; exact i
        | false =>
          cases q b <;> simp <;> omega
    rw [List.countP_cons, List.countP_cons]
    obtain ⟨x, hx, h1, h2⟩ := g
    rcases List.mem_cons.mp hx with e | e
    · subst e
      have i := le fun y hy => h y (List.mem_cons_of_mem _ hy)
      rw [h1, h2]
      simp
      omega
    · have i := countP_lt (fun y hy => h y (List.mem_cons_of_mem _ hy)) ⟨x, e, h1, h2⟩
      have ha := h a List.mem_cons_self
      cases hp : p a with
      | true => rw [ha hp]; simp; exact i
      | false => cases q a <;> simp <;> omega
theorem rk_lt {f : Nat → Int} {u v : Nat} (hu : u < n) (h : f u < f v) : rk f n u < rk f n v :=
  countP_lt (fun x _ hx => decide_eq_true (by have := of_decide_eq_true hx; omega)) ⟨u, List.mem_range.mpr hu, decide_eq_true h, decide_eq_false (Int.lt_irrefl _)⟩
theorem rk_le (f : Nat → Int) (v : Nat) : rk f n v ≤ n := by
  have z := List.countP_le_length (p := fun x => decide (f x < f v)) (l := List.range n)
  rw [List.length_range] at z
  exact z
theorem rk_lt_n {f : Nat → Int} {v : Nat} (hv : v < n) : rk f n v < n := by
  have z := countP_lt (p := fun x => decide (f x < f v)) (q := fun _ => true) (l := List.range n) (fun _ _ _ => rfl) ⟨v, List.mem_range.mpr hv, rfl, decide_eq_false (Int.lt_irrefl _)⟩
  rw [List.countP_eq_length.mpr (fun _ _ => rfl), List.length_range] at z
  exact z
theorem bfI_ok (r : Road) (M : Nat → Nat → Int) : ∀ m, MLe (bfI n m r M) M ∧ ∀ i, i < m → bfI n m r M i r.2.1 ≤ M i r.1 + r.2.2
  | 0 => ⟨fun _ _ => Int.le_refl _, fun i h => absurd h (Nat.not_lt_zero _)⟩
  | m + 1 => by
    obtain ⟨h1, h2⟩ := bfI_ok r M m
    have e0 : bfI n (m + 1) r M = upd2 (bfI n m r M) m r.2.1 (min (bfI n m r M m r.2.1) (bfI n m r M m r.1 + r.2.2)) := by unfold bfI; rw [foldl_succ]
    rw [e0]
    generalize bfI n m r M = M' at h1 h2
    have z := mle_upd (M := M') (i := m) (j := r.2.1) (Int.min_le_left (M' m r.2.1) (M' m r.1 + r.2.2))
    refine ⟨z.trans h1, fun i hi => ?_⟩
    by_cases e : i = m
    · subst e
      rw [upd2_at]
      have a := h1 i r.1
      have c := Int.min_le_right (M' i r.2.1) (M' i r.1 + r.2.2)
      omega
    · exact Int.le_trans (z i _) (h2 i (by omega))
theorem bfR_ok : ∀ (R : List Road) (M : Nat → Nat → Int), MLe (bfR n R M) M ∧ ∀ r ∈ R, ∀ i, i < n → bfR n R M i r.2.1 ≤ M i r.1 + r.2.2
  | [], M => ⟨fun _ _ => Int.le_refl _, fun r h => by cases h⟩
  | r :: R, M => by
    obtain ⟨h1, h2⟩ := bfI_ok (n := n) r M n
    obtain ⟨g1, g2⟩ := bfR_ok R (bfI n n r M)
    have e0 : bfR n (r :: R) M = bfR n R (bfI n n r M) := rfl
    rw [e0]
    refine ⟨g1.trans h1, fun s hs i hi => ?_⟩
    rcases List.mem_cons.mp hs with e | e
    · subst e
      exact Int.le_trans (g1 i _) (h2 i hi)
    · have a := g2 s e i hi
      have b := h1 i s.1
      omega
theorem bfT_mle (R : List Road) (M : Nat → Nat → Int) : ∀ m, MLe (bfT n m R M) M
  | 0 => fun _ _ => Int.le_refl _
  | m + 1 => by
    have e0 : bfT n (m + 1) R M = bfR n R (bfT n m R M) := by unfold bfT; rw [foldl_succ]
    rw [e0]
    exact (bfR_ok R _).1.trans (bfT_mle R M m)
def LowD (n : Nat) (d M : Nat → Nat → Int) : Prop := ∀ i j, i < n → j < n → d i j ≤ M i j
theorem lowD_step {M : Nat → Nat → Int} {r : Road} {m : Nat} (W : Web n ws R d) (hr : r ∈ R) (hm : m < n) (h : LowD n d M) : LowD n d (upd2 M m r.2.1 (min (M m r.2.1) (M m r.1 + r.2.2))) := fun i j hi hj => by
  unfold upd2
  by_cases e : i = m ∧ j = r.2.1
  · rw [if_pos e, e.1, e.2]
    have a := h m r.2.1 hm (W.rd r hr).2.1
    have b := h m r.1 hm (W.rd r hr).1
    have c := W.step (i := m) (u := r.1) (v := r.2.1) (l := r.2.2) hm hr
    omega
  · rw [if_neg e]; exact h i j hi hj
theorem lowD_I {r : Road} (W : Web n ws R d) (hr : r ∈ R) {M : Nat → Nat → Int} (h : LowD n d M) : ∀ m, m ≤ n → LowD n d (bfI n m r M)
  | 0, _ => h
  | m + 1, hm => by
    have e0 : bfI n (m + 1) r M = upd2 (bfI n m r M) m r.2.1 (min (bfI n m r M m r.2.1) (bfI n m r M m r.1 + r.2.2)) := by unfold bfI; rw [foldl_succ]
    rw [e0]
    exact lowD_step W hr (by omega) (lowD_I W hr h m (by omega))
theorem lowD_R (W : Web n ws R d) : ∀ (S : List Road) (M : Nat → Nat → Int), (∀ r ∈ S, r ∈ R) → LowD n d M → LowD n d (bfR n S M)
  | [], _, _, h => h
  | r :: S, M, hS, h => lowD_R W S (bfI n n r M) (fun s hs => hS s (List.mem_cons_of_mem _ hs)) (lowD_I W (hS r List.mem_cons_self) h n (Nat.le_refl _))
theorem lowD_T (W : Web n ws R d) {M : Nat → Nat → Int} (h : LowD n d M) : ∀ m, LowD n d (bfT n m R M)
  | 0 => h
  | m + 1 => by
    have e0 : bfT n (m + 1) R M = bfR n R (bfT n m R M) := by unfold bfT; rw [foldl_succ]
    rw [e0]
    exact lowD_R W R _ (fun _ h => h) (lowD_T W h m)
theorem sum_le {b : Int} : ∀ {ls : List Int}, (∀ y ∈ ls, y ≤ b) → ls.sum ≤ b * ls.length
  | [], _ => by simp
  | a :: r, h => by
    rw [List.length_cons, List.sum_cons]
    have h1 := h a List.mem_cons_self
    have h2 := sum_le fun y hy => h y (List.mem_cons_of_mem _ hy)
    have e : b * ((r.length + 1 : Nat) : Int) = b * r.length + b := by rw [Int.natCast_add]; show b * (_ + 1) = _; rw [Int.mul_add, Int.mul_one]
    omega
def bfOf (n : Nat) (R : List Road) : Nat → Nat → Int := bfT n n R (m0 1000000)
theorem Web.sum2000 (W : Web n ws R d) : (R.map (·.2.2)).sum ≤ 2000 := by
  have z := sum_le (b := 100) (ls := R.map (·.2.2)) fun y hy => by
    obtain ⟨r, hr, rfl⟩ := List.mem_map.mp hy
    exact (W.rd r hr).2.2.2.2
  rw [List.length_map] at z
  have q := W.rl
  omega
theorem bf_web (W : Web n ws R d) : ∀ i j, i < n → j < n → bfOf n R i j = d i j := by
  have hlow : LowD n d (bfOf n R) := lowD_T W (fun i j hi hj => by
    unfold m0
    by_cases e : i = j
    · subst e; rw [if_pos rfl, W.dii hi]; exact Int.le_refl _
    · rw [if_neg e]
      have a := W.dsum hi hj
      have b := W.sum2000
      omega) n
  have hup : ∀ t, ∀ i v, i < n → v < n → rk (d i) n v ≤ t → bfT n t R (m0 1000000) i v ≤ d i v := by
    have hself : ∀ t i, i < n → bfT n t R (m0 1000000) i i ≤ d i i := fun t i hi => by
      have a := bfT_mle (n := n) R (m0 1000000) t i i
      have b : m0 1000000 i i = 0 := if_pos rfl
      rw [W.dii hi]
      omega
    intro t
    induction t with
    | zero =>
      intro i v hi hv h
      by_cases e : v = i
      · subst e; exact hself 0 v hi
      · obtain ⟨u, l, h1, h2, h3⟩ := W.pred hi hv e
        have h4 := (W.rd _ h1).2.2.2.1
        simp only at h4
        have z := rk_lt (n := n) (f := d i) h2 (show d i u < d i v by omega)
        omega
    | succ t ih =>
      intro i v hi hv h
      by_cases e : v = i
      · subst e; exact hself _ v hi
      · obtain ⟨u, l, h1, h2, h3⟩ := W.pred hi hv e
        have h4 := (W.rd _ h1).2.2.2.1
        simp only at h4
        have z := rk_lt (n := n) (f := d i) h2 (show d i u < d i v by omega)
        have q := ih i u hi h2 (by omega)
        have e0 : bfT n (t + 1) R (m0 1000000) = bfR n R (bfT n t R (m0 1000000)) := by unfold bfT; rw [foldl_succ]
        rw [e0]
        have g := (bfR_ok (n := n) R (bfT n t R (m0 1000000))).2 _ h1 i hi
        simp only at g
        omega
  intro i j hi hj
  have a := hlow i j hi hj
  have b := hup n i j hi hj (rk_le _ _)
  show bfT n n R (m0 1000000) i j = _
  have c : bfOf n R i j = bfT n n R (m0 1000000) i j := rfl
  omega
theorem rowsD_congr {M M' : Nat → Nat → Int} (h : ∀ i j, i < n → j < n → M i j = M' i j) : rowsD n M = rowsD n M' := by
  unfold rowsD rowD
  refine congrArg PySem.PyData.list (List.map_congr_left fun i hi => congrArg PySem.PyData.list (List.map_congr_left fun j hj => ?_))
  rw [h i j (List.mem_range.mp hi) (List.mem_range.mp hj)]
end
end K7
/-! ### part 5: need_oneway, the sums' defs, best_round -/
namespace K7
open PySem L2
theorem room65 {k : Nat} {A : Around} (r : Room k A) : A.units + 65 < cLine := by have := r.un; omega
theorem lay_tups : ∀ ts : List (List Int), PyData.canLayAll0 (ts.map intsD) = true
  | [] => by rw [List.map_nil]; simp [PyData.canLayAll0]
  | t :: ts => by
    rw [List.map_cons, PyData.canLayAll0, lay_tups ts, Bool.and_true]
    unfold intsD
    rw [PyData.canLay0]
    exact lay_ints t
theorem dep_tups : ∀ ts : List (List Int), PyData.depthAll (ts.map intsD) ≤ 2
  | [] => by rw [List.map_nil]; simp [PyData.depthAll]
  | t :: ts => by
    have h := dep_tups ts
    have g := dep_ints t
    simp only [List.map_cons, PyData.depthAll, PyData.depth, intsD]
    omega
theorem shaped_tups (ts : List (List Int)) : SeqAt.shaped (.list (ts.map intsD)) = true := by
  have h := dep_tups ts
  show (PyData.canLay0 (.list _) && decide (PyData.depth (.list _) ≤ 64)) = true
  rw [Bool.and_eq_true]
  exact ⟨by simp only [PyData.canLay0]; exact lay_tups ts, decide_eq_true (by simp only [PyData.depth]; omega)⟩
theorem eqvAll_ints : ∀ a b : List Int, PyData.eqvAll (a.map .int) (b.map .int) = decide (a = b)
  | [], [] => by simp [PyData.eqvAll]
  | [], _ :: _ => by simp [PyData.eqvAll]
  | _ :: _, [] => by simp [PyData.eqvAll]
  | x :: xs, y :: ys => by
    rw [List.map_cons, List.map_cons, PyData.eqvAll, eqvAll_ints xs ys, PyData.eqv]
    by_cases h : x = y
    · subst h
      by_cases g : xs = ys
      · subst g; simp
      · rw [decide_eq_false g, decide_eq_false (by intro z; cases z; exact g rfl)]; simp
    · rw [decide_eq_false (show ¬ x :: xs = y :: ys by intro z; cases z; exact h rfl), beq_eq_false_iff_ne.mpr h] <;> rfl
theorem eqv_ints (a b : List Int) : PyData.eqv (intsD a) (intsD b) = decide (a = b) := eqvAll_ints a b
theorem inV_non : ∀ ns : List Int, inV .non (ns.map V.int) = false
  | [] => rfl
  | n :: ns => by
    have h := inV_non ns
    unfold inV at h ⊢
    rw [List.map_cons, List.any_cons, h]
    rfl
theorem any_tups (a : List Int) (ts : List (List Int)) : ((ts.map intsD).any fun z => PyData.eqv z (intsD a)) = decide (a ∈ ts) := by
  induction ts with
  | nil => rfl
  | cons t ts ih =>
    rw [List.map_cons, List.any_cons, ih, eqv_ints]
    by_cases h : t = a
    · subst h; simp
    · rw [decide_eq_false h, Bool.false_or]
      exact decide_eq_decide.mpr ⟨fun z => List.mem_cons_of_mem _ z, fun z => (List.mem_cons.mp z).elim (fun e => absurd e.symm h) id⟩
def pairI (r : Road) : List Int := [(r.1 : Int), (r.2.1 : Int)]
section
variable {K : PySem.W.Frag} {σ : St} {H H' : Hp} {ds : List PyData}
/-- a list that grows -/
def GL (K : PySem.W.Frag) (Hb H : Hp) (l : Addr) (ds : List PyData) : Prop := Hb l = none ∧ Same Hb H ∧ ∃ vs, H l = some (.lst vs) ∧ DpAll K H vs ds
theorem GL.same {Hb : Hp} {l : Addr} (e : Same H H') (h : GL K Hb H l ds) : GL K Hb H' l ds := by
  obtain ⟨h1, h2, vs, h3, h4⟩ := h
  exact ⟨h1, h2.trans e, vs, e _ _ h3, dps_same e _ _ h4⟩
theorem GL.ml {Hb : Hp} {l : Addr} (h : GL K Hb H l ds) : ML K H (.ref l) ds := by
  obtain ⟨h1, h2, vs, h3, h4⟩ := h
  exact ⟨l, vs, rfl, h3, h4⟩
theorem GL.dp {Hb : Hp} {l : Addr} (h : GL K Hb H l ds) : Dp K H (.ref l) (.list ds) := h.ml.dp
theorem gl_new {l : Addr} (h : H l = none) : GL K H (upd H l (.lst [])) l [] := ⟨h, same_new h, [], upd_same, .nil⟩
theorem q_newL {D : Ends} {tz : TS} {i : Nat} (k : ∀ p H1, Same H H1 → GL K H H1 p [] → tz D (σ.set i (some (.ref p))) H1) : tSeq (tAsg (tLst tNil) (gName i)) tz D σ H :=
  ⟨by show 0 ≤ sizeLine; decide, fun p hp => k p _ (same_new hp) (gl_new hp)⟩
theorem s_gl {D : Ends} {te : TE} {Hb : Hp} {l : Addr} {i : Nat} {d : PyData} (hi : σ[i]? = some (some (.ref l))) (hg : GL K Hb H l ds) (h : EvD K te σ H d) (t1 : TDs ds = true) (t2 : TD d = true) (hz : ds.length < 10000000) (k : ∀ H', GL K Hb H' l (ds ++ [d]) → D.nx σ H') :
    tDrop (tBM K "list" rAppend (tVar i) (tCons te tNil)) D σ H := by
  obtain ⟨h1, h2, vs, h3, h4⟩ := hg
  have hl := dps_len h4
  refine s_app hi h3 h (by omega) fun v H1 e p => k _ ⟨h1, same_mut (h2.trans e) h1, _, upd_same, ?_⟩
  have kp : TKeep H1 (upd H1 l (.lst (vs ++ [v]))) := TKeep.lst (e _ _ h3)
  exact dps_app (dps_tk kp _ _ t1 (dps_same e _ _ h4)) (.cons (dp_tk kp _ _ t2 p) .nil)
theorem tds_map {α : Type} {xs : List α} {f : α → PyData} (h : ∀ x, TD (f x) = true) : TDs (xs.map f) = true := TDs_of fun d hd => by
  obtain ⟨x, _, rfl⟩ := List.mem_map.mp hd
  exact h x
theorem td_ints (ns : List Int) : TD (intsD ns) = true := by
  show TDs (ns.map .int) = true
  exact tds_map fun _ => rfl
/-- enumerate(t[k]) -/
theorem eio_enumIx {i : Nat} {v : V} {k : Int} {es : List PyData} (h : σ[i]? = some (some v)) (hd : Dp K H v (.tuple es)) (hk : atI es k = some (.tuple ds)) : EvIo K (iEnumT K (tCons (tOp (rIxT K) (tVar i) (tC (.int k))) tNil)) σ H (enumD ds) := fun H1 e R q => by
  obtain ⟨b, ys, rfl, hb, hbll⟩ := dp_tup hd
  obtain ⟨w, hw, hwd⟩ := atI_dps hbll hk
  obtain ⟨a, xs, rfl, hs, hall⟩ := dp_tup hwd
  have hl : xs.length = (enumD ds).length := (dps_len hall).trans enumD_len.symm
  refine ⟨_, h, b, ys, k, _, rfl, rfl, same_tup e hb, hw, a, xs, rfl, same_tup e hs, ?_⟩
  refine q (IteT K a) (fun H => SqT K H a xs) (YPair (fun i => some (.int (i : Nat))) (fun i => xs[i]?)) H1 (Same.refl _) (by rw [← hl]; exact walk_enumT) (fun H' a => same_tup a hs) fun j x Ha Hb hj a y => ?_
  obtain ⟨T, x1, x2, rfl, hT, rfl, e1, e2'⟩ := y
  cases e1
  obtain ⟨d, h1, h2⟩ := dps_get' hall e2'
  have sn : Same Ha (upd Ha T (.tup [.int (j : Nat), x2])) := same_new hT
  exact ⟨sn, _, enumD_get h1, .tup (SqT.of upd_same) (.cons (.int _) (.cons (dp_same (a.trans sn) _ _ h2) .nil))⟩
end
theorem nodup_map {α β : Type} {f : α → β} (hf : ∀ a b, f a = f b → a = b) : ∀ {l : List α}, l.Nodup → (l.map f).Nodup
  | [], _ => List.nodup_nil
  | x :: l, h => by
    rw [List.nodup_cons] at h
    rw [List.map_cons]; rw [List.nodup_cons]
    refine ⟨fun hm => ?_, nodup_map hf h.2⟩
    obtain ⟨y, hy, e⟩ := List.mem_map.mp hm
    exact h.1 (hf _ _ e ▸ hy)
section
variable {P : Program} {w : World} {K : PySem.W.Frag} {mg : Str → Option Value} {base : Heap}
theorem rt_web {n : Nat} {ws : List Int} {R : List Road} {d : Nat → Nat → Int} (W : Web n ws R d) : R_rt [webD ws R] (rowsD n d) :=
  ⟨n, ws, R, rfl, W.wl, by have := W.n6; omega, by have := W.rl; omega, fun x hx => ⟨(W.rd x hx).1, (W.rd x hx).2.1⟩, fun i j hi hj => by
    obtain ⟨a, b⟩ := fw_web W i j hi hj
    omega, rowsD_congr fun i j hi hj => (fw_web W i j hi hj).1.symm⟩
abbrev CalD (P : Program) (w : World) (K : PySem.W.Frag) (mg : Str → Option Value) (base : Heap) (k : Nat) (x : Str) (ps : List Str) (R : List PyData → PyData → Prop) : Prop := Cal P w K mg base k x ps (SpD K R)
/-! need_oneway -/
def R_no (ds : List PyData) (r : PyData) : Prop := ∃ (n : Nat) (ws : List Int) (R : List Road) (d : Nat → Nat → Int), Web n ws R d ∧ ds = [webD ws R] ∧ r = .none
theorem sc_no : FnScope ["oneway", "pairs", "index", "one", "row"] ["oneway"] (defScope s_now) := ⟨rfl, rfl, rfl, by decide +kernel, rfl, by decide +kernel, by decide +kernel⟩
theorem c_no (T : TB mg) (CW : CalD P w K mg base 2 "is_weights" ["value"] R_isw) (CY : CalD P w K mg base 2 "is_way" ["value", "count"] R_way) (CRT : CalD P w K mg base 1 "rows_there" ["oneway"] R_rt)
    (D : DefAt K mg "need_oneway" ["oneway"] s_now) : CalD P w K mg base 3 "need_oneway" ["oneway"] R_no := by
  refine D.cal sc_no (SpD.len fun ds r h => ?_) (fun f cdv A outer s H vs Q E hr h => ?_)
  · obtain ⟨_, _, _, _, _, rfl, _⟩ := h
    rfl
  obtain ⟨ds, r, hv, ⟨n, ws, R, d, W, rfl, rfl⟩, q⟩ := h
  obtain ⟨v1, rfl, h1⟩ := dps1 hv
  obtain ⟨t20, mg20⟩ := T.c20
  refine ⟨_, (pss_cons (ps_if (PW.pt (pw_or (pt_not (pt_val (pe_callB (k_isi K) rfl T.isinstance (by decide +kernel) (pa_cons (pv 0) (pa_cons (pe_bltn (v := .ty "tuple") rfl T.tuple (by decide +kernel) rfl) pa_nil))))) (pw_or (pt_cmpR op_ne (pe_callB (k_len K) rfl T.len (by decide +kernel) (pa_cons (pv 0) pa_nil)) pe_int (nomark _)) (pw_or1 (pt_not (pt_val (pe_callC CW (hr.mono (by decide)) rfl (pa_cons (pe_ix (k_ixT K) (pv 0) pe_int (fun _ _ => rfl)) pa_nil)))))))) (pss_one ps_never) pss_nil)
    (pss_cons (ps_if (PW.pt (pw_or (pt_not (pt_val (pe_callB (k_isi K) rfl T.isinstance (by decide +kernel) (pa_cons (pe_ix (k_ixT K) (pv 0) pe_int (fun _ _ => rfl)) (pa_cons (pe_bltn (v := .ty "tuple") rfl T.tuple (by decide +kernel) rfl) pa_nil))))) (pw_or1 (pt_cmpR op_gt (pe_callB (k_len K) rfl T.len (by decide +kernel) (pa_cons (pe_ix (k_ixT K) (pv 0) pe_int (fun _ _ => rfl)) pa_nil)) (pe_glob (v := .int 20) rfl mg20 ⟨_, rfl⟩) (nomark _))))) (pss_one ps_never) pss_nil)
    (pss_cons (ps_set (i := 1) sc_no.nd rfl (Or.inl rfl) (pe_lst pa_nil))
    (pss_cons (ps_for PassesOwn.never rfl (k_pienum K rfl T.enumerate (pa_cons (pe_ix (k_ixT K) (pv 0) pe_int (fun _ _ => rfl)) pa_nil)) (k_gtup K (pgs_cons (pg_name (i := 2) sc_no.nd rfl (Or.inl rfl)) (pgs_cons (pg_name (i := 3) sc_no.nd rfl (Or.inl rfl)) pgs_nil)))
      (pss_cons (ps_if (PW.pt (pw_or (pt_not (pt_val (pe_callC CY (hr.mono (by decide)) rfl (pa_cons (pv 3) (pa_cons (pe_callB (k_len K) rfl T.len (by decide +kernel) (pa_cons (pe_ix (k_ixT K) (pv 0) pe_int (fun _ _ => rfl)) pa_nil)) pa_nil))))) (pw_or1 (pt_cmpR (k_inD K (room65 hr)) (pe_slice (k_slT K) (pv 3) po_none (po_some pe_int)) (pv 1) (by rfl))))) (pss_one ps_never) pss_nil)
    (pss_one (ps_expr (pe_bm PySem.F.plainAttrs_list PySem.F.slot_list_append PySem.F.type_list_append mt_append (pv 1) (pa_cons (pe_slice (k_slT K) (pv 3) po_none (po_some pe_int)) pa_nil))))))
    (pss_one (ps_if (pt_cmpR (k_neD K hr.units) (pe_lc (own := [("row", 4)]) (g := (gName 4)) rfl sc_no.nd (k_pilist K (pe_callC CRT (hr.mono (by decide)) rfl (pa_cons (pv 0) pa_nil))) (blkOk_by (own := [("row", 4)]) (N := ["oneway", "pairs", "index", "one", "row"]) (sc := defScope s_now) (by decide +kernel)) (fun _ _ _ _ _ => (pg_name (i := 4) sc_no.nd rfl (Or.inl rfl))) (fun _ _ _ _ _ => (pts_one (pt_cmpR (k_in K) pe_non (pv 4) (by rfl)))) (fun _ _ _ _ _ => (pv 4))) (pe_lst pa_nil) (nomark _)) (pss_one ps_never) pss_nil)))))), ?_⟩
  have hlr : (R.map roadD).length = R.length := List.length_map _
  have hlw : (ws.map PyData.int).length = n := by rw [List.length_map, W.wl]
  have n6 := W.n6
  have n2 := W.n2
  have rl := W.rl
  refine q_no (EvB.is (eb_or (eb_not (eb_B (ed_isi (ed_var rfl h1) kit_tt))) fun _ => eb_or (eb_test (ed_op (ep_cb (ea_cons (ed_var rfl h1) ea_nil) (rc_lenT (n := 2) rfl)) ed_int ro_ne)) fun _ =>
    eb_not (eb_B (ep_call (ea_cons (ed_op (ed_var rfl h1) ed_int (ro_ixT (d := intsD ws) rfl)) ea_nil) (spD_of ⟨ws, rfl, by rw [W.wl]; omega, by rw [W.wl]; omega, W.w0, W.wsum, rfl⟩)))) rfl) fun H1 e1 => ?_
  have h1a := dp_same e1 _ _ h1
  have ix1 : ∀ {H2 : Hp} {σ : St}, σ[0]? = some (some v1) → Dp K H2 v1 (webD ws R) → EvD K (tOp (rIxT K) (tVar 0) (tC (.int 1))) σ H2 (.tuple (R.map roadD)) := fun hσ hd => ed_op (ed_var hσ hd) ed_int (ro_ixT rfl)
  refine q_no (EvB.is (eb_or (eb_not (eb_B (ed_isi (ix1 rfl h1a) kit_tt))) fun _ => eb_test (ed_op (ep_cb (ea_cons (ix1 rfl h1a) ea_nil) (rc_lenT hlr)) ed_int ro_cmp)) ?_) fun H2 e2 => ?_
  · rw [decide_eq_false (show ¬ (20 : Int) < R.length by omega)] <;> rfl
  have h1b := dp_same e2 _ _ h1a
  have hU : R.map (fun r => pairI r) = (R.map fun r => (r.1, r.2.1)).map fun p => [(p.1 : Int), (p.2 : Int)] := by
    rw [List.map_map] <;> rfl
  have hnd : (R.map pairI).Nodup := by
    show (R.map fun r => pairI r).Nodup
    rw [hU]
    exact nodup_map (fun a b e => by
      have z1 : (a.1 : Int) = b.1 := by injection e
      have z2 : (a.2 : Int) = b.2 := by injection e with _ e; injection e
      exact Prod.ext (by omega) (by omega)) W.nd
  refine q_newL (K := K) fun p H3 e3 g3 => ?_
  have e2w := e1.trans e2
  refine q_for (K := K) (H0 := H2) (eio_enumIx (ds := R.map roadD) rfl h1b rfl) e3 (fun i σ' H' => GL K H2 H' p (((R.take i).map pairI).map intsD) ∧ ∃ u2 u3 u4 : Option V, σ' = [some v1, some (.ref p), u2, u3, u4])
    (fun H4 e4 => ⟨g3.same e4, none, none, none, rfl⟩) (fun i σ' H' _ z => z.1.2.1) (fun i e x σ' H' H4 he z e4 hx => ?_) fun σ' H' z => ?_
  · obtain ⟨z1, u2, u3, u4, rfl⟩ := z
    obtain ⟨e', he', rfl⟩ := enumD_get' he
    obtain ⟨y, hy, rfl⟩ := roads_get he'
    obtain ⟨x1, x2, y1, y2, hq⟩ := g_tup2 (σ := [some v1, some (.ref p), u2, u3, u4]) (i := 2) (j := 3) hx
    have gy := W.rd y (List.mem_of_getElem? hy)
    have z1' := z1.same e4
    have h1c : Dp K H4 v1 (webD ws R) := dp_same z1'.2.1 _ _ h1b
    have hi := (List.getElem?_eq_some_iff.mp hy).1
    have hnot : pairI y ∉ (R.take i).map pairI := fun hm => by
      obtain ⟨k, hk⟩ := List.getElem?_of_mem hm
      have hkl := (List.getElem?_eq_some_iff.mp hk).1
      rw [List.length_map, List.length_take] at hkl
      have hk2 : (R.map pairI)[k]? = some (pairI y) := by
        rw [List.getElem?_map, List.getElem?_take] at hk
        rw [List.getElem?_map]
        rw [if_pos (by omega)] at hk
        exact hk
      have hy2 : (R.map pairI)[i]? = some (pairI y) := by rw [List.getElem?_map, hy] <;> rfl
      have := nd_ix hnd hk2 hy2
      omega
    refine hq _ ?_
    have sl : ∀ {H5 : Hp}, Dp K H5 x2 (roadD y) → EvD K (tSl (rSlA K) (tVar 3) tNoPart (tPart (tC (.int 2)))) [some v1, some (.ref p), some x1, some x2, u4] H5 (intsD (pairI y)) := fun hd => ed_slT (ed_var rfl hd) eo_none (eo_some (K := K) ed_int)
    refine q_no (EvB.is (eb_or (eb_not (eb_B (ep_call (ea_cons (ed_var rfl y2) (ea_cons (ep_cb (ea_cons (ed_op (ed_var rfl h1c) ed_int (ro_ixT (d := intsD ws) rfl)) ea_nil) (rc_lenT hlw)) ea_nil)) (spD_of ⟨y, n, rfl, gy.1, gy.2.1, gy.2.2.1, gy.2.2.2.1, gy.2.2.2.2, rfl⟩)))) fun _ =>
      eb_test (ed_op (sl y2) (ed_var rfl z1'.dp) (ro_inD (b := false) (shaped_ints _) (shaped_tups _) (by rw [any_tups]; exact decide_eq_false hnot)))) rfl) fun H5 e5 => ?_
    refine s_gl (K := K) rfl (z1'.same e5) (sl (dp_same e5 _ _ y2)) (tds_map fun _ => td_ints _) (td_ints _) (by simp only [List.length_map, List.length_take]; omega) fun H6 g6 => ⟨?_, _, _, _, rfl⟩
    rw [List.take_succ, hy, List.map_append, List.map_append]
    exact g6
  · obtain ⟨z1, u2, u3, u4, rfl⟩ := z
    have h1c : Dp K H' v1 (webD ws R) := dp_same z1.2.1 _ _ h1b
    refine s_no (EvB.is (eb_test (ed_op (EvM.toD (em_lcN (K := K) (ei_lst (ds := (List.range n).map fun i => rowD n (d i)) (ep_call (ea_cons (ed_var rfl h1c) ea_nil) (spD_of (rt_web W)))) (fun _ => false) (fun _ => .none) (fun _ => rfl) (by rw [List.length_map, List.length_range]; omega) (fun _ _ z => nomatch z) fun i e x H4 he e4 hx => ⟨?_, fun z => nomatch z⟩))
      (EvM.toD (em_lst ea_nil (by simp))) (ro_neD (b := false) ?_ shaped_nil ?_))) rfl) fun H4 e4 => q _ H4 ((e2w.trans z1.2.1).trans e4) .non
    · have hi : i < n := by
        have z := (List.getElem?_eq_some_iff.mp he).1
        rw [List.length_map, List.length_range] at z
        exact z
      rw [List.getElem?_map, List.getElem?_range hi] at he
      cases he
      have hx' : Dp K H4 x (.list (((List.range n).map (d i)).map .int)) := by
        rw [← rowD_ints]
        exact hx
      exact eb_test (ed_op ed_non (ed_var rfl hx') (ro_inLN (inV_non _)))
    · rw [givenD_nil fun _ _ => rfl]
      exact shaped_nil
    · rw [givenD_nil fun _ _ => rfl] <;> rfl
/-! round_sum -/
structure HOkH (n : Nat) (hs : List Nat) : Prop where
  ne : hs ≠ []
  up : hs.Pairwise (· < ·)
  lt : ∀ k ∈ hs, k < n
  len : hs.length ≤ 60
theorem ri_web {n : Nat} {ws : List Int} {R : List Road} {d : Nat → Nat → Int} {hs : List Nat} (W : Web n ws R d) (h : HOkH n hs) : R_ri [webD ws R, rowsD n d, natsD hs] (.int (rsum n ws d hs)) :=
  ⟨n, ws, R, d, hs, rfl, W.wl, by have := W.n6; omega, W.w0, h.ne, by have := h.len; omega, h.lt, rfl⟩
def R_rs (ds : List PyData) (r : PyData) : Prop := ∃ (n : Nat) (ws : List Int) (R : List Road) (d : Nat → Nat → Int) (hs : List Nat), Web n ws R d ∧ HOkH n hs ∧ ds = [webD ws R, natsD hs] ∧ r = .int (rsum n ws d hs)
theorem sc_rs : FnScope ["oneway", "houses"] ["oneway", "houses"] (defScope s_rs) := ⟨rfl, rfl, rfl, by decide +kernel, rfl, by decide +kernel, by decide +kernel⟩
theorem c_rs (T : TB mg) (CNO : CalD P w K mg base 3 "need_oneway" ["oneway"] R_no) (CNH : CalD P w K mg base 2 "need_houses" ["web", "houses"] R_nh) (CRT : CalD P w K mg base 1 "rows_there" ["oneway"] R_rt) (CRI : CalD P w K mg base 1 "round_in" ["oneway", "rows", "houses"] R_ri)
    (D : DefAt K mg "round_sum" ["oneway", "houses"] s_rs) : CalD P w K mg base 4 "round_sum" ["oneway", "houses"] R_rs := by
  refine D.cal sc_rs (SpD.len fun ds r h => ?_) (fun f cdv A outer s H vs Q E hr h => ?_)
  · obtain ⟨_, _, _, _, _, _, _, rfl, _⟩ := h
    rfl
  obtain ⟨ds, r, hv, ⟨n, ws, R, d, hs, W, h, rfl, rfl⟩, q⟩ := h
  obtain ⟨v1, v2, rfl, h1, h2⟩ := dps2 hv
  refine ⟨_, (pss_cons (ps_expr (pe_callC CNO (hr.mono (by decide)) rfl (pa_cons (pv 0) pa_nil)))
    (pss_cons (ps_expr (pe_callC CNH (hr.mono (by decide)) rfl (pa_cons (pv 0) (pa_cons (pv 1) pa_nil))))
    (pss_one (ps_ret (pe_callC CRI (hr.mono (by decide)) rfl (pa_cons (pv 0) (pa_cons (pe_callC CRT (hr.mono (by decide)) rfl (pa_cons (pv 0) pa_nil)) (pa_cons (pv 1) pa_nil)))))))), ?_⟩
  refine q_drop (ep_call (ea_cons (ed_var rfl h1) ea_nil) (spD_of ⟨n, ws, R, d, W, rfl, rfl⟩)) fun _ H1 e1 _ => ?_
  have h1a := dp_same e1 _ _ h1
  have h2a := dp_same e1 _ _ h2
  refine q_drop (ep_call (ea_cons (ed_var rfl h1a) (ea_cons (ed_var rfl h2a) ea_nil)) (spD_of ⟨ws, R, hs, rfl, h.ne, h.up, fun k hk => by rw [W.wl]; exact h.lt k hk, h.len, rfl⟩)) fun _ H2 e2 _ => ?_
  have h1b := dp_same e2 _ _ h1a
  have h2b := dp_same e2 _ _ h2a
  exact s_ret (ep_call (ea_cons (ed_var rfl h1b) (ea_cons (ep_call (ea_cons (ed_var rfl h1b) ea_nil) (spD_of (rt_web W))) (ea_cons (ed_var rfl h2b) ea_nil))) (spD_of (ri_web W h))) fun v H3 e3 p => q v H3 ((e1.trans e2).trans e3) p
/-! best_out -/
def outSum (n : Nat) (ws : List Int) (d : Nat → Nat → Int) (i : Nat) : Int := ((List.range n).map fun k => ws.getD k 0 * d i k).sum
def inSum (n : Nat) (ws : List Int) (d : Nat → Nat → Int) (x : Nat) : Int := ((List.range n).map fun k => ws.getD k 0 * d k x).sum
def outs (n : Nat) (ws : List Int) (d : Nat → Nat → Int) : List Int := (List.range n).map (outSum n ws d)
def ins (n : Nat) (ws : List Int) (d : Nat → Nat → Int) : List Int := (List.range n).map (inSum n ws d)
def R_bo (ds : List PyData) (r : PyData) : Prop := ∃ (n : Nat) (ws : List Int) (R : List Road) (d : Nat → Nat → Int), Web n ws R d ∧ ds = [webD ws R] ∧ r = .tuple [.int (minL (outs n ws d)), natsD (leastPts (outs n ws d))]
def R_bi (ds : List PyData) (r : PyData) : Prop := ∃ (n : Nat) (ws : List Int) (R : List Road) (d : Nat → Nat → Int), Web n ws R d ∧ ds = [webD ws R] ∧ r = .tuple [.int (minL (ins n ws d)), natsD (leastPts (ins n ws d))]
theorem sc_bo : FnScope ["oneway", "rows", "row", "one", "far"] ["oneway"] (defScope s_bo) := ⟨rfl, rfl, rfl, by decide +kernel, rfl, by decide +kernel, by decide +kernel⟩
theorem sc_bi : FnScope ["oneway", "rows", "size", "sums", "x", "k"] ["oneway"] (defScope s_bi) := ⟨rfl, rfl, rfl, by decide +kernel, rfl, by decide +kernel, by decide +kernel⟩
theorem range_ne {n : Nat} (h : 0 < n) {f : Nat → Int} : (List.range n).map f ≠ [] := fun z => by
  have := congrArg List.length z
  rw [List.length_map, List.length_range] at this
  simp at this
  omega
theorem row_get {n i : Nat} {f : Nat → Int} {d : PyData} (h : ((List.range n).map fun j => PyData.int (f j))[i]? = some d) : i < n ∧ d = .int (f i) := by
  have hi : i < n := by
    have z := (List.getElem?_eq_some_iff.mp h).1
    rw [List.length_map, List.length_range] at z
    exact z
  rw [List.getElem?_map, List.getElem?_range hi] at h
  cases h
  exact ⟨hi, rfl⟩
theorem c_bo (T : TB mg) (CNO : CalD P w K mg base 3 "need_oneway" ["oneway"] R_no) (CRT : CalD P w K mg base 1 "rows_there" ["oneway"] R_rt) (CLT : CalD P w K mg base 1 "least_told" ["sums"] R_lt)
    (D : DefAt K mg "best_out" ["oneway"] s_bo) : CalD P w K mg base 4 "best_out" ["oneway"] R_bo := by
  refine D.cal sc_bo (SpD.len fun ds r h => ?_) (fun f cdv A outer s H vs Q E hr h => ?_)
  · obtain ⟨_, _, _, _, _, rfl, _⟩ := h
    rfl
  obtain ⟨ds, r, hv, ⟨n, ws, R, d, W, rfl, rfl⟩, q⟩ := h
  obtain ⟨v1, rfl, h1⟩ := dps1 hv
  refine ⟨_, (pss_cons (ps_expr (pe_callC CNO (hr.mono (by decide)) rfl (pa_cons (pv 0) pa_nil)))
    (pss_cons (ps_set (i := 1) sc_bo.nd rfl (Or.inl rfl) (pe_callC CRT (hr.mono (by decide)) rfl (pa_cons (pv 0) pa_nil)))
    (pss_one (ps_ret (pe_callC CLT (hr.mono (by decide)) rfl (pa_cons (pe_lc (own := [("row", 2)]) (g := (gName 2)) rfl sc_bo.nd (k_pilist K (pv 1)) (blkOk_by (own := [("row", 2)]) (N := ["oneway", "rows", "row", "one", "far"]) (sc := defScope s_bo) (by decide +kernel)) (fun _ _ _ _ _ => (pg_name (i := 2) sc_bo.nd rfl (Or.inl rfl))) (fun _ _ _ _ _ => pts_nil) (fun _ _ _ _ _ => (pe_callB (k_sum K) rfl T.sum (by decide +kernel) (pa_cons (pe_lc (own := [("one", 3), ("far", 4)]) (g := (gTup K 2 (gCons (gName 3) (gCons (gName 4) gNil)))) rfl sc_bo.nd (k_pizip K rfl T.zip (pa_cons (pe_ix (k_ixT K) (pv 0) pe_int (fun _ _ => rfl)) (pa_cons (pv 2) pa_nil))) (blkOk_by (own := [("one", 3), ("far", 4)]) (N := ["oneway", "rows", "row", "one", "far"]) (sc := relS (scp (arg0 (retE ((defBody s_bo).getD 2 (.Pass ⟨0, 0, 0, 0⟩))))) (defScope s_bo)) (by decide +kernel)) (fun _ _ _ _ _ => (k_gtup K (pgs_cons (pg_name (i := 3) sc_bo.nd rfl (Or.inl rfl)) (pgs_cons (pg_name (i := 4) sc_bo.nd rfl (Or.inl rfl)) pgs_nil)))) (fun _ _ _ _ _ => pts_nil) (fun _ _ _ _ _ => (pe_op op_mul (pv 3) (pv 4)))) pa_nil)))) pa_nil)))))), ?_⟩
  have n6 := W.n6
  have n2 := W.n2
  refine q_drop (ep_call (ea_cons (ed_var rfl h1) ea_nil) (spD_of ⟨n, ws, R, d, W, rfl, rfl⟩)) fun _ H1 e1 _ => ?_
  have h1a := dp_same e1 _ _ h1
  refine q_asgD (ep_call (ea_cons (ed_var rfl h1a) ea_nil) (spD_of (rt_web W))) fun v2 H2 e2 h2 => ?_
  have h1b := dp_same e2 _ _ h1a
  refine s_ret (ep_call (ds := [.list ((outs n ws d).map .int)]) (ea_cons (EvM.toD (EvM.is (em_lcN (K := K) (ei_lstV rfl h2).i (fun _ => true) (fun i => .int (outSum n ws d i)) (fun _ => rfl) (by rw [List.length_map, List.length_range]; omega) (fun _ _ _ => rfl) fun i e x H3 he e3 hx => ⟨eb_yes, fun _ => ?_⟩) ?_)) ea_nil)
    (spD_of ⟨outs n ws d, rfl, range_ne (by omega), by unfold outs; rw [List.length_map, List.length_range]; omega, rfl⟩)) fun v H3 e3 p => q v H3 ((e1.trans e2).trans e3) p
  · have hi : i < n := by
      have z := (List.getElem?_eq_some_iff.mp he).1
      rw [List.length_map, List.length_range] at z
      exact z
    rw [List.getElem?_map, List.getElem?_range hi] at he
    cases he
    have h1c := dp_same e3 _ _ h1b
    have hlz : (zipD (ws.map PyData.int) ((List.range n).map fun j => PyData.int (d i j))).length = n := by rw [zipD_len, List.length_map, W.wl]
    refine ep_cb (ds := [.list (((List.range n).map fun k => ws.getD k 0 * d i k).map .int)]) (ea_cons (EvM.toD (EvM.is (em_lc (K := K) (ei_zipM (ds := ws.map .int) (es := (List.range n).map fun j => .int (d i j)) (ea_cons (ed_op (ed_var rfl h1c) ed_int (ro_ixT rfl)) (ea_cons (ed_var rfl hx) ea_nil)) (by rw [List.length_map, List.length_map, List.length_range, W.wl])) (fun _ => true) (fun k => .int (ws.getD k 0 * d i k)) (by rw [hlz]; omega) (fun _ _ _ => rfl) fun k e y H4 he2 e4 hy => ?_) ?_)) ea_nil) rc_sum
    · have hk : k < n := by
        have z := (List.getElem?_eq_some_iff.mp he2).1
        rw [hlz] at z
        exact z
      have hw : (ws.map PyData.int)[k]? = some (.int (ws.getD k 0)) := by
        rw [List.getElem?_map, List.getElem?_eq_getElem (by rw [W.wl]; exact hk), List.getD_eq_getElem?_getD, List.getElem?_eq_getElem (by rw [W.wl]; exact hk)] <;> rfl
      have hr2 : ((List.range n).map fun j => PyData.int (d i j))[k]? = some (.int (d i k)) := by rw [List.getElem?_map, List.getElem?_range hk] <;> rfl
      rw [zipD_get hw hr2] at he2
      cases he2
      obtain ⟨x1, x2, y1, y2, hq⟩ := g_tup2 (σ := wipe ((wipe ((start ["oneway", "rows", "row", "one", "far"] [v1]).set 1 (some v2)) [2]).set 2 (some x)) [3, 4]) (i := 3) (j := 4) hy
      cases y1
      cases y2
      have gw : 0 ≤ ws.getD k 0 ∧ ws.getD k 0 ≤ 100 := W.w0 _ (by rw [List.getElem?_map] at hw; obtain ⟨z, hz, e⟩ := Option.map_eq_some_iff.mp hw; cases e; exact List.mem_of_getElem? hz)
      refine ⟨_, ?_, hq, eb_yes, fun _ => ed_op (ed_vari rfl) (ed_vari rfl) (ro_mul (.inl ⟨by omega, by omega⟩))⟩
      rfl
    · rw [givenD_all, hlz, List.map_map] <;> rfl
  · rw [givenD_all, List.length_map, List.length_range]
    show _ = ((List.range n).map (outSum n ws d)).map PyData.int
    rw [List.map_map] <;> rfl
end
end K7
/-! ### part 6: best_in, best_round -/
namespace K7
open PySem L2
abbrev BR := Int × PySem.W.Tup Int
theorem roomD {k : Nat} {A : Around} (r : Room k A) : A.units + 1 + PySem.W.Datum.depth BR < cLine := by
  have z := r.un
  show A.units + 1 + (max 0 (0 + 1) + 1) < cLine
  omega
theorem roomT {k : Nat} {A : Around} (r : Room k A) : A.units + 1 + PySem.W.Datum.depth (PySem.W.Tup Int) < cLine := by
  have z := r.un
  show A.units + 1 + (0 + 1) < cLine
  omega
section
variable {K : PySem.W.Frag} {σ : St} {H : Hp} {d1 d2 : PyData} {D : Ends} {tz : TS} {ta : TA}
theorem q_par2T {i j : Nat} (h : EvA K ta σ H [d1, d2]) (k : ∀ x y H1, Same H H1 → Dp K H1 x d1 → Dp K H1 y d2 → tz D ((σ.set i (some x)).set j (some y)) H1) :
    tSeq (tAsg (tTup ta) (gTup K 2 (gCons (gName i) (gCons (gName j) gNil)))) tz D σ H := h H (Same.refl _) _ fun vs H1 e ps => by
  obtain ⟨x, y, rfl, p1, p2⟩ := dps2 ps
  exact ⟨by show 2 ≤ sizeLine; decide, fun p hp => ⟨p, _, rfl, SqT.of upd_same, rfl, _, _, rfl, _, _, rfl, rfl, k x y _ (e.trans (same_new hp)) (dp_same (same_new hp) _ _ p1) (dp_same (same_new hp) _ _ p2)⟩⟩
theorem q_par2 {i j : Nat} (h : EvA K ta σ H [d1, d2]) (k : ∀ x y H1, Same H H1 → Dp K H1 x d1 → Dp K H1 y d2 → tz D ((σ.set i (some x)).set j (some y)) H1) :
    tSeq (tPar i j ta) tz D σ H := h H (Same.refl _) _ fun vs H1 e ps => by
  obtain ⟨x, y, rfl, p1, p2⟩ := dps2 ps
  exact ⟨x, y, rfl, k x y _ e p1 p2⟩
end
/-- the data of what is kept of a list -/
theorem given_filter {α : Type} (l : List α) (p : α → Bool) (F : α → PyData) (b : α) : givenD l.length (fun i => p (l.getD i b)) (fun i => F (l.getD i b)) = (l.filter p).map F := by
  have e : (List.range l.length).map (fun i => l.getD i b) = l := by
    have z := range_mapD l id b
    rw [List.map_id] at z
    exact z
  conv => rhs; rw [← e]
  unfold givenD
  rw [List.filter_map, List.map_map] <;> rfl
def allSets (n : Nat) : List (List Nat) := (List.range (2 ^ n - 1)).map fun m => memb (m + 1) n
def natsT (hs : List Nat) : PySem.W.Tup Int := ⟨hs.map fun k : Nat => (k : Int)⟩
theorem natsT_D (hs : List Nat) : PySem.W.Datum.toD (natsT hs) = natsD hs := by
  show PyData.tuple ((hs.map fun k : Nat => (k : Int)).map .int) = _
  unfold natsD
  rw [List.map_map] <;> rfl
def cands (n : Nat) (ws : List Int) (d : Nat → Nat → Int) (c : Int) : List BR := ((allSets n).filter fun hs => decide ((hs.length : Int) = c)).map fun hs => (rsum n ws d hs, natsT hs)
def bestOf {α : Type} [DecidableEq α] [PySem.W.DatumOrd α] (b : α) : List α → α
  | [] => b
  | x :: r => PySem.W.minOf x r
theorem sets_some : ∀ n ∈ [2, 3, 4, 5, 6], ∀ c ∈ (List.range n).map (· + 1), (allSets n).any (fun hs => hs.length == c) = true := by decide +kernel
theorem mem26 {n : Nat} (h2 : 2 ≤ n) (h6 : n ≤ 6) : n ∈ [2, 3, 4, 5, 6] := by
  have : n = 2 ∨ n = 3 ∨ n = 4 ∨ n = 5 ∨ n = 6 := by omega
  rcases this with rfl | rfl | rfl | rfl | rfl <;> decide
theorem cands_ne {n : Nat} {ws : List Int} {d : Nat → Nat → Int} {c : Int} (h2 : 2 ≤ n) (h6 : n ≤ 6) (hc : 1 ≤ c) (hn : c ≤ n) : cands n ws d c ≠ [] := by
  have z := sets_some n (mem26 h2 h6) c.toNat (List.mem_map.mpr ⟨c.toNat - 1, List.mem_range.mpr (by omega), by omega⟩)
  obtain ⟨hs, h, e⟩ := List.any_eq_true.mp z
  have e' : hs.length = c.toNat := eq_of_beq e
  intro q
  have m : (rsum n ws d hs, natsT hs) ∈ cands n ws d c := List.mem_map.mpr ⟨hs, List.mem_filter.mpr ⟨h, decide_eq_true (by omega)⟩, rfl⟩
  rw [q] at m
  cases m
theorem memb_ok {n m : Nat} (h6 : n ≤ 6) (hne : memb m n ≠ []) : HOkH n (memb m n) := by
  refine ⟨hne, ?_, fun k hk => List.mem_range.mp (List.mem_filter.mp hk).1, ?_⟩
  · exact List.Pairwise.filter _ List.pairwise_lt_range
  · have z := List.length_filter_le (bitOf m) (List.range n)
    rw [List.length_range] at z
    show ((List.range n).filter (bitOf m)).length ≤ 60
    omega
theorem td_nats (hs : List Nat) : TD (natsD hs) = true := by
  show TDs (hs.map fun k : Nat => PyData.int (k : Int)) = true
  exact tds_map fun _ => rfl
theorem td_pair (a : Int) (hs : List Nat) : TD (.tuple [.int a, natsD hs]) = true := by
  have h := td_nats hs
  simp [TD, TDs, h]
section
variable {P : Program} {w : World} {K : PySem.W.Frag} {mg : Str → Option Value} {base : Heap}
theorem c_bi (T : TB mg) (CNO : CalD P w K mg base 3 "need_oneway" ["oneway"] R_no) (CRT : CalD P w K mg base 1 "rows_there" ["oneway"] R_rt) (CLT : CalD P w K mg base 1 "least_told" ["sums"] R_lt)
    (D : DefAt K mg "best_in" ["oneway"] s_bi) : CalD P w K mg base 4 "best_in" ["oneway"] R_bi := by
  refine D.cal sc_bi (SpD.len fun ds r h => ?_) (fun f cdv A outer s H vs Q E hr h => ?_)
  · obtain ⟨_, _, _, _, _, rfl, _⟩ := h
    rfl
  obtain ⟨ds, r, hv, ⟨n, ws, R, d, W, rfl, rfl⟩, q⟩ := h
  obtain ⟨v1, rfl, h1⟩ := dps1 hv
  refine ⟨_, (pss_cons (ps_expr (pe_callC CNO (hr.mono (by decide)) rfl (pa_cons (pv 0) pa_nil)))
    (pss_cons (ps_asg (pe_tup (pa_cons (pe_callC CRT (hr.mono (by decide)) rfl (pa_cons (pv 0) pa_nil)) (pa_cons (pe_callB (k_len K) rfl T.len (by decide +kernel) (pa_cons (pe_ix (k_ixT K) (pv 0) pe_int (fun _ _ => rfl)) pa_nil)) pa_nil))) (k_gtup K (pgs_cons (pg_name (i := 1) sc_bi.nd rfl (Or.inr rfl)) (pgs_cons (pg_name (i := 2) sc_bi.nd rfl (Or.inl rfl)) pgs_nil))))
    (pss_cons (ps_set (i := 3) sc_bi.nd rfl (Or.inl rfl) (pe_lst pa_nil))
    (pss_cons (ps_for PassesOwn.never rfl (pi_range1 rfl T.range (pa_cons (pv 2) pa_nil)) (pg_name (i := 4) sc_bi.nd rfl (Or.inr rfl))
      (pss_one (ps_expr (pe_bm PySem.F.plainAttrs_list PySem.F.slot_list_append PySem.F.type_list_append mt_append (pv 3) (pa_cons (pe_callB (k_sum K) rfl T.sum (by decide +kernel) (pa_cons (pe_lc (own := [("k", 5)]) (g := (gName 5)) rfl sc_bi.nd (pi_range1 rfl T.range (pa_cons (pv 2) pa_nil)) (blkOk_by (own := [("k", 5)]) (N := ["oneway", "rows", "size", "sums", "x", "k"]) (sc := defScope s_bi) (by decide +kernel)) (fun _ _ _ _ _ => (pg_name (i := 5) sc_bi.nd rfl (Or.inl rfl))) (fun _ _ _ _ _ => pts_nil) (fun _ _ _ _ _ => (pe_op op_mul (pe_ix (k_ixT K) (pe_ix (k_ixT K) (pv 0) pe_int (fun _ _ => rfl)) (pv 5) (fun _ _ => rfl)) (pe_ix (k_ixL K) (pe_ix (k_ixL K) (pv 1) (pv 5) (fun _ _ => rfl)) (pv 4) (fun _ _ => rfl))))) pa_nil)) pa_nil)))))
    (pss_one (ps_ret (pe_callC CLT (hr.mono (by decide)) rfl (pa_cons (pv 3) pa_nil)))))))), ?_⟩
  have n6 := W.n6
  have n2 := W.n2
  have hlw : (ws.map PyData.int).length = n := by rw [List.length_map, W.wl]
  refine q_drop (ep_call (ea_cons (ed_var rfl h1) ea_nil) (spD_of ⟨n, ws, R, d, W, rfl, rfl⟩)) fun _ H1 e1 _ => ?_
  have h1a := dp_same e1 _ _ h1
  refine q_par2T (K := K) (ea_cons (ep_call (ea_cons (ed_var rfl h1a) ea_nil) (spD_of (rt_web W))) (ea_cons (ep_cb (ea_cons (ed_op (ed_var rfl h1a) ed_int (ro_ixT (d := intsD ws) rfl)) ea_nil) (rc_lenT hlw)) ea_nil)) fun v2 y H2 e2 h2 hy => ?_
  cases hy
  have h1b := dp_same e2 _ _ h1a
  refine q_newL (K := K) fun p H3 e3 g3 => ?_
  refine q_for (K := K) (H0 := H2) (ei_rng1 (n := n) (ea_cons (ed_vari rfl) ea_nil) (by omega)) e3 (fun i σ' H' => GL K H2 H' p (((List.range i).map (inSum n ws d)).map .int) ∧ ∃ u4 : Option V, σ' = [some v1, some v2, some (.int (n : Int)), some (.ref p), u4, none])
    (fun H4 e4 => ⟨g3.same e4, none, rfl⟩) (fun i σ' H' _ z => z.1.2.1) (fun x e y σ' H' H4 he z e4 hx => ?_) fun σ' H' z => ?_
  · obtain ⟨hxn, rfl⟩ := rngD_get' he
    have e0 : (0 : Int) + (x : Int) = (x : Int) := Int.zero_add _
    rw [e0] at hx
    cases hx
    obtain ⟨z1, u4, rfl⟩ := z
    have z1' := z1.same e4
    have h1c : Dp K H4 v1 (webD ws R) := dp_same z1'.2.1 _ _ h1b
    have h2c : Dp K H4 v2 (rowsD n d) := dp_same z1'.2.1 _ _ h2
    refine s_gl (K := K) (d := .int (inSum n ws d x)) rfl z1' (ep_cb (ds := [.list (((List.range n).map fun k => ws.getD k 0 * d k x).map .int)]) (ea_cons (EvM.toD (EvM.is (em_lcR (K := K) (n := n) (ea_cons (ed_vari rfl) ea_nil) (by omega) (fun _ => true) (fun k => .int (ws.getD k 0 * d k x)) (fun _ => rfl) (fun _ _ _ => rfl) fun k H5 hk e5 => ⟨eb_yes, fun _ => ?_⟩) ?_)) ea_nil) rc_sum) (tds_map fun _ => rfl) rfl (by rw [List.length_map, List.length_map, List.length_range]; omega) fun H6 g6 => ⟨?_, _, rfl⟩
    · have hw : (ws.map PyData.int)[k]? = some (.int (ws.getD k 0)) := by
        rw [List.getElem?_map, List.getElem?_eq_getElem (by rw [W.wl]; exact hk), List.getD_eq_getElem?_getD, List.getElem?_eq_getElem (by rw [W.wl]; exact hk)] <;> rfl
      have gw : 0 ≤ ws.getD k 0 ∧ ws.getD k 0 ≤ 100 := W.w0 _ (by rw [List.getElem?_map] at hw; obtain ⟨z, hz, e⟩ := Option.map_eq_some_iff.mp hw; cases e; exact List.mem_of_getElem? hz)
      exact ed_op (ed_op (ed_op (ed_var rfl (dp_same e5 _ _ h1c)) ed_int (ro_ixT (d := intsD ws) rfl)) (ed_vari rfl) (ro_ixT (ds := ws.map .int) (atI_nat hw))) (ed_op (ed_op (ed_var rfl (dp_same e5 _ _ h2c)) (ed_vari rfl) (ro_ixL (rows_at hk))) (ed_vari rfl) (ro_ixL (row_at hxn))) (ro_mul (.inl ⟨by omega, by omega⟩))
    · rw [givenD_all, List.map_map] <;> rfl
    · rw [List.range_succ, List.map_append, List.map_append]
      exact g6
  · obtain ⟨z1, u4, rfl⟩ := z
    rw [rngD_len] at z1
    exact s_ret (ep_call (ea_cons (ed_var rfl z1.dp) ea_nil) (spD_of ⟨ins n ws d, rfl, range_ne (by omega), by unfold ins; rw [List.length_map, List.length_range]; omega, rfl⟩)) fun v H5 e5 p => q v H5 (((e1.trans e2).trans z1.2.1).trans e5) p
def R_br (ds : List PyData) (r : PyData) : Prop := ∃ (n : Nat) (ws : List Int) (R : List Road) (d : Nat → Nat → Int) (c : Int), Web n ws R d ∧ 1 ≤ c ∧ c ≤ n ∧ ds = [webD ws R, .int c] ∧ r = PySem.W.Datum.toD (bestOf (0, ⟨[]⟩) (cands n ws d c))
theorem sc_br : FnScope ["oneway", "count", "rows", "size", "some", "number", "houses"] ["oneway", "count"] (defScope s_br) := ⟨rfl, rfl, rfl, by decide +kernel, rfl, by decide +kernel, by decide +kernel⟩
theorem c_br (T : TB mg) (CNO : CalD P w K mg base 3 "need_oneway" ["oneway"] R_no) (CNC : CalD P w K mg base 2 "need_count" ["web", "count"] R_nc) (CRT : CalD P w K mg base 1 "rows_there" ["oneway"] R_rt) (CM : CalD P w K mg base 1 "members" ["number", "count"] R_mem) (CRI : CalD P w K mg base 1 "round_in" ["oneway", "rows", "houses"] R_ri)
    (D : DefAt K mg "best_round" ["oneway", "count"] s_br) : CalD P w K mg base 4 "best_round" ["oneway", "count"] R_br := by
  refine D.cal sc_br (SpD.len fun ds r h => ?_) (fun f cdv A outer s H vs Q E hr h => ?_)
  · obtain ⟨_, _, _, _, _, _, _, _, rfl, _⟩ := h
    rfl
  obtain ⟨ds, r, hv, ⟨n, ws, R, d, c, W, hc1, hc2, rfl, rfl⟩, q⟩ := h
  obtain ⟨v1, v2, rfl, h1, h2⟩ := dps2 hv
  refine ⟨_, (pss_cons (ps_expr (pe_callC CNO (hr.mono (by decide)) rfl (pa_cons (pv 0) pa_nil)))
    (pss_cons (ps_expr (pe_callC CNC (hr.mono (by decide)) rfl (pa_cons (pv 0) (pa_cons (pv 1) pa_nil))))
    (pss_cons (ps_asg (pe_tup (pa_cons (pe_callC CRT (hr.mono (by decide)) rfl (pa_cons (pv 0) pa_nil)) (pa_cons (pe_callB (k_len K) rfl T.len (by decide +kernel) (pa_cons (pe_ix (k_ixT K) (pv 0) pe_int (fun _ _ => rfl)) pa_nil)) pa_nil))) (k_gtup K (pgs_cons (pg_name (i := 2) sc_br.nd rfl (Or.inr rfl)) (pgs_cons (pg_name (i := 3) sc_br.nd rfl (Or.inr rfl)) pgs_nil))))
    (pss_cons (ps_setLc (i := 4) (own := [("number", 5)]) (g := (gName 5)) rfl sc_br.nd rfl rfl (sw_true rfl rfl rfl (by decide +kernel)) (pi_range2 rfl T.range (pa_cons pe_int (pa_cons (pe_op op_shl pe_int (pv 3)) pa_nil))) (blkOk_by (own := [("number", 5)]) (N := ["oneway", "count", "rows", "size", "some", "number", "houses"]) (sc := defScope s_br) (by decide +kernel)) (fun _ _ _ _ _ => (pg_name (i := 5) sc_br.nd rfl (Or.inl rfl))) (fun _ _ _ _ _ => pts_nil) (fun _ _ _ _ _ => (pe_callC CM (hr.mono (by decide)) rfl (pa_cons (pv 5) (pa_cons (pv 3) pa_nil)))))
    (pss_one (ps_ret (pe_callB (k_minD BR K (roomD hr)) rfl T.min (by decide +kernel) (pa_cons (pe_lc (own := [("houses", 6)]) (g := (gName 6)) rfl sc_br.nd (k_pilist K (pv 4)) (blkOk_by (own := [("houses", 6)]) (N := ["oneway", "count", "rows", "size", "some", "number", "houses"]) (sc := defScope s_br) (by decide +kernel)) (fun _ _ _ _ _ => (pg_name (i := 6) sc_br.nd rfl (Or.inl rfl))) (fun _ _ _ _ _ => (pts_one (pt_cmpR op_eq (pe_callB (k_len K) rfl T.len (by decide +kernel) (pa_cons (pv 6) pa_nil)) (pv 1) (nomark _)))) (fun _ _ _ _ _ => (pe_tup (pa_cons (pe_callC CRI (hr.mono (by decide)) rfl (pa_cons (pv 0) (pa_cons (pv 2) (pa_cons (pv 6) pa_nil)))) (pa_cons (pv 6) pa_nil))))) pa_nil)))))))), ?_⟩
  have n6 := W.n6
  have n2 := W.n2
  have hlw : (ws.map PyData.int).length = n := by rw [List.length_map, W.wl]
  cases h2
  refine q_drop (ep_call (ea_cons (ed_var rfl h1) ea_nil) (spD_of ⟨n, ws, R, d, W, rfl, rfl⟩)) fun _ H1 e1 _ => ?_
  have h1a := dp_same e1 _ _ h1
  refine q_drop (ep_call (ea_cons (ed_var rfl h1a) (ea_cons (ed_vari rfl) ea_nil)) (spD_of ⟨ws, R, c, rfl, hc1, by rw [W.wl]; exact hc2, rfl⟩)) fun _ H2 e2 _ => ?_
  have h1b := dp_same e2 _ _ h1a
  refine q_par2T (K := K) (ea_cons (ep_call (ea_cons (ed_var rfl h1b) ea_nil) (spD_of (rt_web W))) (ea_cons (ep_cb (ea_cons (ed_op (ed_var rfl h1b) ed_int (ro_ixT (d := intsD ws) rfl)) ea_nil) (rc_lenT hlw)) ea_nil)) fun v3 y H3 e3 h3 hy => ?_
  cases hy
  have h1c := dp_same e3 _ _ h1b
  have hpow : 2 ^ n ≤ 64 ∧ 1 ≤ 2 ^ n := by
    have := mem26 n2 n6
    have z : ∀ k ∈ [2, 3, 4, 5, 6], 2 ^ k ≤ 64 ∧ 1 ≤ 2 ^ k := by decide
    exact z n this
  have ehi : ((1 : Int) * 2 ^ ((n : Int)).toNat - 1).toNat = 2 ^ n - 1 := by
    rw [Int.toNat_natCast, Int.one_mul]
    have z : ((2 : Int) ^ n) = ((2 ^ n : Nat) : Int) := by rw [Int.natCast_pow] <;> rfl
    rw [z]
    omega
  have ehi2 : (1 : Int) * 2 ^ ((n : Int)).toNat = ((2 ^ n : Nat) : Int) := by
    rw [Int.toNat_natCast, Int.one_mul, Int.natCast_pow] <;> rfl
  have hla : (allSets n).length = 2 ^ n - 1 := by unfold allSets; rw [List.length_map, List.length_range]
  refine q_asg (EvM.is (em_lcN (K := K) (ei_rng2 (lo := 1) (hi := 1 * 2 ^ ((n : Int)).toNat) (ea_cons ed_int (ea_cons (ed_op ed_int (ed_vari rfl) (ro_I (by refine ⟨?_, ?_, ?_⟩ <;> omega) fun _ => .int _)) ea_nil)) (by rw [ehi2]; omega)).i (fun _ => true) (fun m => natsD (memb (m + 1) n)) (fun _ => rfl) (by rw [rngD_len, ehi]; omega) (fun _ _ _ => td_nats _) fun i e x H4 he e4 hx => ⟨eb_yes, fun _ => ?_⟩) (show _ = (allSets n).map natsD from ?_)) fun v5 H4 e4 h5 => ?_
  · obtain ⟨hi, rfl⟩ := rngD_get' he
    rw [show (1 : Int) + (i : Int) = ((i + 1 : Nat) : Int) by omega] at hx
    cases hx
    exact ep_call (ea_cons (ed_vari rfl) (ea_cons (ed_vari rfl) ea_nil)) (spD_of ⟨i + 1, n, rfl, by omega, rfl⟩)
  · rw [givenD_all, rngD_len, ehi]
    unfold allSets
    rw [List.map_map] <;> rfl
  have h1d := dp_same e4 _ _ h1c
  have h3d := dp_same e4 _ _ h3
  have hne := cands_ne (ws := ws) (d := d) n2 n6 hc1 hc2
  cases hcs : cands n ws d c with
  | nil => exact absurd hcs hne
  | cons x l =>
    rw [hcs] at q
    refine s_ret (ep_cb (ds := [.list ((x :: l).map PySem.W.Datum.toD)]) (ea_cons (EvM.toD (EvM.is (em_lcN (K := K) (ei_lstV rfl h5.dp).i (fun i => decide ((((allSets n).getD i []).length : Int) = c)) (fun i => .tuple [.int (rsum n ws d ((allSets n).getD i [])), natsD ((allSets n).getD i [])]) (fun _ => rfl) (by rw [List.length_map, hla]; omega)
      (fun _ _ _ => td_pair _ _) fun i e y H5 he e5 hy => ?_) ?_)) ea_nil) (rc_minD rfl)) fun v H5 e5 p => q v H5 ((((e1.trans e2).trans e3).trans e4).trans e5) p
    · rw [List.getElem?_map] at he
      obtain ⟨hs, hhs, rfl⟩ := Option.map_eq_some_iff.mp he
      have eg : (allSets n).getD i [] = hs := by rw [List.getD_eq_getElem?_getD, hhs] <;> rfl
      have hle : (hs.map fun k : Nat => PyData.int (k : Int)).length = hs.length := List.length_map _
      refine ⟨?_, fun hf => ?_⟩
      · show EvB _ _ H5 (decide ((((allSets n).getD i []).length : Int) = c))
        rw [eg]
        exact eb_test (K := K) (ed_op (ep_cb (ea_cons (ed_var rfl hy) ea_nil) (rc_lenT hle)) (ed_vari rfl) ro_eq)
      · show EvD K _ _ H5 (.tuple [.int (rsum n ws d ((allSets n).getD i [])), natsD ((allSets n).getD i [])])
        rw [eg] at hf ⊢
        have hlen := of_decide_eq_true hf
        have hok : HOkH n hs := by
          unfold allSets at hhs
          rw [List.getElem?_map] at hhs
          obtain ⟨m, _, rfl⟩ := Option.map_eq_some_iff.mp hhs
          refine memb_ok n6 fun z => ?_
          rw [z] at hlen
          simp at hlen
          omega
        exact ed_tup (ea_cons (ep_call (ea_cons (ed_var rfl (dp_same e5 _ _ h1d)) (ea_cons (ed_var rfl (dp_same e5 _ _ h3d)) (ea_cons (ed_var rfl hy) ea_nil))) (spD_of (ri_web W hok))) (ea_cons (ed_var rfl hy) ea_nil)) (by simp)
    · rw [← hcs, List.length_map]
      rw [given_filter (allSets n) (fun hs => decide ((hs.length : Int) = c)) (fun hs => .tuple [.int (rsum n ws d hs), natsD hs]) []]
      unfold cands
      rw [List.map_map]
      refine List.map_congr_left fun hs _ => ?_
      show PyData.tuple [.int _, natsD hs] = PyData.tuple [.int _, PySem.W.Datum.toD (natsT hs)]
      rw [natsT_D]
end
end K7
/-! ### part 8: all shortest ways, rings -/
namespace K7
open PySem L2
/-- all shortest ways from a to b (f is more than the number of points nearer to b) -/
def aw (R : List Road) (d : Nat → Nat → Int) (b : Nat) : Nat → Nat → List (List Nat)
  | 0, _ => []
  | f + 1, a => if a = b then [[a]] else R.flatMap fun r => if r.1 = a ∧ r.2.2 + d r.2.1 b = d a b then (aw R d b f r.2.1).map (a :: ·) else []
theorem nodup_bound : ∀ (n : Nat) (l : List Nat), l.Nodup → (∀ x ∈ l, x < n) → l.length ≤ n
  | 0, l, _, h => by
    cases l with
    | nil => exact Nat.le_refl _
    | cons x r => exact absurd (h x List.mem_cons_self) (Nat.not_lt_zero _)
  | n + 1, l, nd, h => by
    by_cases hm : n ∈ l
    · have h1 := nodup_bound n (l.erase n) (nd.erase n) fun x hx => by
        have h2 := h x (List.mem_of_mem_erase hx)
        have h3 : x ≠ n := fun e => by
          subst e
          exact (List.Nodup.not_mem_erase nd) hx
        omega
      have h4 := List.length_erase_of_mem hm
      omega
    · have h1 := nodup_bound n l nd fun x hx => by
        have h2 := h x hx
        have h3 : x ≠ n := fun e => hm (e ▸ hx)
        omega
      omega
theorem outdeg {n : Nat} {ws : List Int} {R : List Road} {d : Nat → Nat → Int} (W : Web n ws R d) {a : Nat} (ha : a < n) : (R.filter fun r => decide (r.1 = a)).length ≤ 5 := by
  have hl : ((R.filter fun r => decide (r.1 = a)).map (·.2.1)).length = (R.filter fun r => decide (r.1 = a)).length := List.length_map _
  have nd : ((R.filter fun r => decide (r.1 = a)).map (·.2.1)).Nodup := by
    have h1 : ((R.filter fun r => decide (r.1 = a)).map fun r => (r.1, r.2.1)).Nodup := (List.Sublist.map _ List.filter_sublist).nodup W.nd
    generalize hL : (R.filter fun r => decide (r.1 = a)) = L at h1
    have hall : ∀ r ∈ L, r.1 = a := fun r hr => by
      rw [← hL] at hr
      exact of_decide_eq_true (List.mem_filter.mp hr).2
    clear hL hl
    induction L with
    | nil => exact List.nodup_nil
    | cons r L ih =>
      rw [List.map_cons, List.nodup_cons] at h1 ⊢
      refine ⟨fun hm => ?_, ih h1.2 fun r hr => hall r (List.mem_cons_of_mem _ hr)⟩
      obtain ⟨s, hs, e⟩ := List.mem_map.mp hm
      refine h1.1 (List.mem_map.mpr ⟨s, hs, ?_⟩)
      rw [e, hall r List.mem_cons_self, hall s (List.mem_cons_of_mem _ hs)]
  have nda : (a :: (R.filter fun r => decide (r.1 = a)).map (·.2.1)).Nodup := by
    rw [List.nodup_cons]
    refine ⟨fun hm => ?_, nd⟩
    obtain ⟨r, hr, e⟩ := (List.mem_map).mp hm
    obtain ⟨h1, h2⟩ := List.mem_filter.mp hr
    have h3 := (W.rd r h1).2.2.1
    have h4 := of_decide_eq_true h2
    exact h3 (h4.trans e.symm)
  have z := nodup_bound n _ nda fun x hx => by
    rcases (List.mem_cons).mp hx with rfl | hx
    · exact ha
    · obtain ⟨r, hr, rfl⟩ := List.mem_map.mp hx
      exact (W.rd r (List.mem_filter.mp hr).1).2.1
  rw [List.length_cons, hl] at z
  have := W.n6
  omega
theorem flat_len {α : Type} {B a : Nat} {F : Road → List α} : ∀ {R : List Road}, (∀ r ∈ R, (F r).length ≤ if r.1 = a then B else 0) → (R.flatMap F).length ≤ (R.filter fun r => decide (r.1 = a)).length * B
  | [], _ => by simp
  | r :: R, h => by
    have i := flat_len (R := R) fun s hs => h s (List.mem_cons_of_mem _ hs)
    have h1 := h r List.mem_cons_self
    rw [List.flatMap_cons, List.length_append, List.filter_cons]
    by_cases e : r.1 = a
    · rw [if_pos e] at h1
      rw [if_pos (decide_eq_true e), List.length_cons, Nat.add_mul]
      omega
    · rw [if_neg e] at h1
      rw [if_neg (by rw [decide_eq_false e]; decide)]
      omega
theorem flat_take {α β : Type} {F : α → List β} : ∀ (l : List α) (i : Nat), ((l.take i).flatMap F).length ≤ (l.flatMap F).length
  | [], i => by simp
  | x :: l, 0 => by simp
  | x :: l, i + 1 => by
    rw [List.take_succ_cons, List.flatMap_cons, List.flatMap_cons, List.length_append, List.length_append]
    have := flat_take (F := F) l i
    omega
theorem flat_next {α β : Type} {F : α → List β} {l : List α} {i : Nat} {x : α} (h : l[i]? = some x) : (l.take (i + 1)).flatMap F = (l.take i).flatMap F ++ F x := by
  rw [List.take_succ, h, List.flatMap_append]
  show _ ++ [x].flatMap F = _
  rw [List.flatMap_cons, List.flatMap_nil, List.append_nil]
theorem aw_len {n : Nat} {ws : List Int} {R : List Road} {d : Nat → Nat → Int} (W : Web n ws R d) {b : Nat} : ∀ (f a : Nat), a < n → (aw R d b (f + 1) a).length ≤ 5 ^ f
  | 0, a, _ => by
    show (if a = b then [[a]] else _).length ≤ 1
    by_cases e : a = b
    · rw [if_pos e]; exact Nat.le_refl _
    · rw [if_neg e]
      have z := flat_len (a := a) (B := 0) (R := R) (F := fun r => if r.1 = a ∧ r.2.2 + d r.2.1 b = d a b then (aw R d b 0 r.2.1).map (a :: ·) else []) fun r _ => by
        by_cases c : r.1 = a ∧ r.2.2 + d r.2.1 b = d a b
        · rw [if_pos c]; simp [aw]
        · rw [if_neg c]; simp
      rw [Nat.mul_zero] at z
      exact Nat.le_trans z (Nat.zero_le _)
  | f + 1, a, ha => by
    show (if a = b then [[a]] else _).length ≤ 5 ^ (f + 1)
    have hp : 1 ≤ 5 ^ (f + 1) := Nat.pow_pos (by decide)
    by_cases e : a = b
    · rw [if_pos e]; exact hp
    · rw [if_neg e]
      have z := flat_len (a := a) (B := 5 ^ f) (R := R) (F := fun r => if r.1 = a ∧ r.2.2 + d r.2.1 b = d a b then (aw R d b (f + 1) r.2.1).map (a :: ·) else []) fun r hr => by
        by_cases c : r.1 = a ∧ r.2.2 + d r.2.1 b = d a b
        · rw [if_pos c, if_pos c.1, List.length_map]
          exact aw_len W f r.2.1 (W.rd r hr).2.1
        · rw [if_neg c]; simp
      have o := outdeg W ha
      have m := Nat.mul_le_mul_right (5 ^ f) o
      rw [Nat.pow_succ]
      omega
theorem aw_small {n : Nat} {ws : List Int} {R : List Road} {d : Nat → Nat → Int} (W : Web n ws R d) {b f a : Nat} (ha : a < n) (hf : f ≤ 6) : (aw R d b f a).length ≤ 3125 := by
  cases f with
  | zero => simp [aw]
  | succ f =>
    have z := aw_len W (b := b) f a ha
    have q := Nat.pow_le_pow_right (n := 5) (by decide) (show f ≤ 5 by omega)
    have : (5 : Nat) ^ 5 = 3125 := by decide
    omega
theorem aw_plen {R : List Road} {d : Nat → Nat → Int} {b : Nat} : ∀ (f a : Nat) (p : List Nat), p ∈ aw R d b f a → p.length ≤ f
  | 0, _, _, h => by cases h
  | f + 1, a, p, h => by
    have h' : p ∈ (if a = b then [[a]] else R.flatMap fun r => if r.1 = a ∧ r.2.2 + d r.2.1 b = d a b then (aw R d b f r.2.1).map (a :: ·) else []) := h
    by_cases e : a = b
    · rw [if_pos e] at h'
      rw [List.mem_singleton.mp h']
      simp
    · rw [if_neg e] at h'
      obtain ⟨r, _, hr⟩ := List.mem_flatMap.mp h'
      by_cases c : r.1 = a ∧ r.2.2 + d r.2.1 b = d a b
      · rw [if_pos c] at hr
        obtain ⟨q, hq, rfl⟩ := List.mem_map.mp hr
        have z := aw_plen f r.2.1 q hq
        rw [List.length_cons]
        omega
      · rw [if_neg c] at hr
        cases hr
theorem natsD_cons (a : Nat) (p : List Nat) : PyData.tuple ([.int (a : Int)] ++ p.map fun k : Nat => .int (k : Int)) = natsD (a :: p) := rfl
theorem tds_nats (ps : List (List Nat)) : TDs (ps.map natsD) = true := tds_map fun _ => td_nats _
section
variable {P : Program} {w : World} {K : PySem.W.Frag} {mg : Str → Option Value} {base : Heap}
/-! all_ways -/
def R_aw (f : Nat) (ds r : List PyData) : Prop := ∃ (n : Nat) (ws : List Int) (R : List Road) (d : Nat → Nat → Int) (a b : Nat), Web n ws R d ∧ a < n ∧ b < n ∧ f ≤ 6 ∧ rk (fun x => d x b) n a < f ∧ ds = [webD ws R, rowsD n d, .int a, .int b] ∧ r = (aw R d b f a).map natsD
theorem sc_aw : FnScope ["oneway", "rows", "a", "b", "found", "x", "y", "length", "rest"] ["oneway", "rows", "a", "b"] (defScope s_aw) := ⟨rfl, rfl, rfl, by decide +kernel, rfl, by decide +kernel, by decide +kernel⟩
theorem c_awS (T : TB mg) {f : Nat} (CA : Cal P w K mg base f "all_ways" ["oneway", "rows", "a", "b"] (SpM K (R_aw f))) (DD : DefAt K mg "all_ways" ["oneway", "rows", "a", "b"] s_aw) : Cal P w K mg base (f + 1) "all_ways" ["oneway", "rows", "a", "b"] (SpM K (R_aw (f + 1))) := by
  refine DD.cal sc_aw (SpM.len fun ds r h => ?_) (fun fa cdv A outer s H vs Q E hr h => ?_)
  · obtain ⟨_, _, _, _, _, _, _, _, _, _, _, rfl, _⟩ := h
    rfl
  obtain ⟨ds, r, hv, ⟨n, ws, R, d, a, b, W, ha, hb, hf, hrk, rfl, rfl⟩, q⟩ := h
  obtain ⟨v1, v2, v3, v4, rfl, h1, h2, h3, h4⟩ := dps4 hv
  cases h3
  cases h4
  refine ⟨_, (pss_cons (ps_if (pt_cmpR op_eq (pv 2) (pv 3) (nomark _)) (pss_one (ps_ret (pe_lst (pa_cons (pe_tup (pa_cons (pv 2) pa_nil)) pa_nil)))) pss_nil)
    (pss_cons (ps_set (i := 4) sc_aw.nd rfl (Or.inl rfl) (pe_lst pa_nil))
    (pss_cons (ps_for PassesOwn.never rfl (k_pitup K (pe_ix (k_ixT K) (pv 0) pe_int (fun _ _ => rfl))) (k_gtup K (pgs_cons (pg_name (i := 5) sc_aw.nd rfl (Or.inl rfl)) (pgs_cons (pg_name (i := 6) sc_aw.nd rfl (Or.inl rfl)) (pgs_cons (pg_name (i := 7) sc_aw.nd rfl (Or.inl rfl)) pgs_nil))))
      (pss_one (ps_if (PW.pt (pw_and (pt_cmpR op_eq (pv 5) (pv 2) (nomark _)) (pw_and1 (pt_cmpR op_eq (pe_op op_add (pv 7) (pe_ix (k_ixL K) (pe_ix (k_ixL K) (pv 1) (pv 6) (fun _ _ => rfl)) (pv 3) (fun _ _ => rfl))) (pe_ix (k_ixL K) (pe_ix (k_ixL K) (pv 1) (pv 2) (fun _ _ => rfl)) (pv 3) (fun _ _ => rfl)) (nomark _))))) (pss_one (ps_set (i := 4) sc_aw.nd rfl (Or.inl rfl) (pe_op op_cat (pv 4) (pe_lc (own := [("rest", 8)]) (g := (gName 8)) rfl sc_aw.nd (k_pilist K (pe_callC CA hr rfl (pa_cons (pv 0) (pa_cons (pv 1) (pa_cons (pv 6) (pa_cons (pv 3) pa_nil)))))) (blkOk_by (own := [("rest", 8)]) (N := ["oneway", "rows", "a", "b", "found", "x", "y", "length", "rest"]) (sc := defScope s_aw) (by decide +kernel)) (fun _ _ _ _ _ => (pg_name (i := 8) sc_aw.nd rfl (Or.inl rfl))) (fun _ _ _ _ _ => pts_nil) (fun _ _ _ _ _ => (pe_op (k_catT K) (pe_tup (pa_cons (pv 2) pa_nil)) (pv 8))))))) pss_nil)))
    (pss_one (ps_ret (pv 4)))))), ?_⟩
  by_cases hab : a = b
  · refine q_if (b := true) (EvB.is (eb_test (K := K) (ed_op (ed_vari rfl) (ed_vari rfl) ro_eq)) (decide_eq_true (by rw [hab]))) (fun _ H1 e1 => ?_) (fun z => nomatch z)
    refine s_ret (em_lst (K := K) (ds := [natsD [a]]) (ea_cons (ed_tup (ds := [.int (a : Int)]) (ea_cons (ed_vari rfl) ea_nil) (by simp)) ea_nil) (by simp)) fun v H2 e2 p => q v H2 (e1.trans e2) ?_
    have e : aw R d b (f + 1) a = [[a]] := if_pos hab
    rw [e]
    exact p
  have eA : aw R d b (f + 1) a = R.flatMap fun r => if r.1 = a ∧ r.2.2 + d r.2.1 b = d a b then (aw R d b f r.2.1).map (a :: ·) else [] := if_neg hab
  have hlen : (aw R d b (f + 1) a).length ≤ 3125 := aw_small W ha hf
  rw [eA] at q hlen
  generalize hF : (fun r : Road => if r.1 = a ∧ r.2.2 + d r.2.1 b = d a b then (aw R d b f r.2.1).map (a :: ·) else []) = F at q hlen
  have hlr : (R.map roadD).length = R.length := List.length_map _
  refine q_no (EvB.is (eb_test (K := K) (ed_op (ed_vari rfl) (ed_vari rfl) ro_eq)) (decide_eq_false (by omega))) fun H1 e1 => ?_
  have h1a := dp_same e1 _ _ h1
  have h2a := dp_same e1 _ _ h2
  refine q_asg (em_lst (K := K) (ds := []) ea_nil (by simp)) fun v5 H2 e2 h5 => ?_
  refine q_for (K := K) (H0 := H1) (ei_tupIx rfl h1a rfl) e2 (fun i σ' H' => Same H1 H' ∧ ∃ u5 : V, ML K H' u5 (((R.take i).flatMap F).map natsD) ∧ ∃ u6 u7 u8 : Option V, σ' = [some v1, some v2, some (.int (a : Int)), some (.int (b : Int)), some u5, u6, u7, u8, none])
    (fun H3 e3 => ⟨e2.trans e3, v5, h5.same e3, none, none, none, rfl⟩) (fun i σ' H' _ z => z.1) (fun i e x σ' H' H3 he z e3 hx => ?_) fun σ' H' z => ?_
  · obtain ⟨z1, u5, z2, u6, u7, u8, rfl⟩ := z
    obtain ⟨y, hy, rfl⟩ := roads_get he
    obtain ⟨x1, x2, x3, y1, y2, y3, hq⟩ := g_tup3 (σ := [some v1, some v2, some (.int (a : Int)), some (.int (b : Int)), some u5, u6, u7, u8, none]) (i := 5) (j := 6) (k := 7) hx
    cases y1
    cases y2
    cases y3
    have gy := W.rd y (List.mem_of_getElem? hy)
    have h1c := dp_same (z1.trans e3) _ _ h1a
    have h2c := dp_same (z1.trans e3) _ _ h2a
    refine hq _ ?_
    refine s_if (b := decide (y.1 = a ∧ y.2.2 + d y.2.1 b = d a b)) (EvB.is (eb_and (eb_test (K := K) (ed_op (ed_vari rfl) (ed_vari rfl) ro_eq)) fun _ => eb_test (K := K) (ed_op (ed_op (ed_vari rfl) (ed_op (ed_op (ed_var rfl h2c) (ed_vari rfl) (ro_ixL (rows_at gy.2.1))) (ed_vari rfl) (ro_ixL (row_at hb))) ro_add)
      (ed_op (ed_op (ed_var rfl h2c) (ed_vari rfl) (ro_ixL (rows_at ha))) (ed_vari rfl) (ro_ixL (row_at hb))) ro_eq)) ?_) (fun hc H4 e4 => ?_) fun hc H4 e4 => ?_
    · rw [← Bool.decide_and]
      exact decide_eq_decide.mpr ⟨fun z => ⟨by omega, z.2⟩, fun z => ⟨by omega, z.2⟩⟩
    · have hc' := of_decide_eq_true hc
      have hrk2 : rk (fun x => d x b) n y.2.1 < f := by
        have z := rk_lt (f := fun x => d x b) (n := n) gy.2.1 (show d y.2.1 b < d a b by have := gy.2.2.2.1; omega)
        omega
      have hl1 : (aw R d b f y.2.1).length ≤ 3125 := aw_small W gy.2.1 (by omega)
      have hFy : F y = (aw R d b f y.2.1).map (a :: ·) := by rw [← hF]; exact if_pos hc'
      refine s_asg (em_cat (K := K) (em_var rfl (z2.same (e3.trans e4))) (EvM.is (em_lcN (K := K) (ei_lst (ds := (aw R d b f y.2.1).map natsD) (EvM.toD (ep_call (ea_cons (ed_var rfl (dp_same e4 _ _ h1c)) (ea_cons (ed_var rfl (dp_same e4 _ _ h2c)) (ea_cons (ed_vari rfl) (ea_cons (ed_vari rfl) ea_nil)))) (spM_of ⟨n, ws, R, d, y.2.1, b, W, gy.2.1, hb, by omega, hrk2, rfl, rfl⟩))))
        (fun _ => true) (fun k => natsD (a :: (aw R d b f y.2.1).getD k [])) (fun _ => rfl) (by rw [List.length_map]; omega) (fun _ _ _ => td_nats _) fun k e w' H5 he2 e5 hw => ⟨eb_yes, fun _ => ?_⟩) (show _ = (F y).map natsD from ?_)) ?_) fun v6 H5 e5 h6 => ⟨((z1.trans e3).trans e4).trans e5, v6, ?_, _, _, _, rfl⟩
      · rw [List.getElem?_map] at he2
        obtain ⟨p, hp, rfl⟩ := Option.map_eq_some_iff.mp he2
        have ep : (aw R d b f y.2.1).getD k [] = p := by rw [List.getD_eq_getElem?_getD, hp] <;> rfl
        rw [ep]
        refine EvD.is (ed_op (ed_tup (ds := [.int (a : Int)]) (ea_cons (ed_vari rfl) ea_nil) (by simp)) (ed_var rfl hw) (ro_catT ?_)) (natsD_cons a p)
        have hpl : p.length ≤ f := aw_plen f y.2.1 p (List.mem_of_getElem? hp)
        rw [List.length_map, List.length_singleton]
        omega
      · rw [givenD_all, List.length_map, hFy, List.map_map]
        have z := range_mapF (aw R d b f y.2.1) (id) [] fun p => natsD (a :: p)
        rw [List.map_id] at z
        exact z
      · rw [List.length_map, List.length_map, hFy, List.length_map]
        have := flat_take (F := F) R i
        omega
      · rw [flat_next hy, List.map_append]
        exact h6
    · have hFy : F y = [] := by rw [← hF]; exact if_neg (of_decide_eq_false hc)
      refine ⟨(z1.trans e3).trans e4, u5, ?_, _, _, _, rfl⟩
      rw [flat_next hy, hFy, List.append_nil]
      exact z2.same (e3.trans e4)
  · obtain ⟨z1, u5, z2, u6, u7, u8, rfl⟩ := z
    rw [hlr, List.take_length] at z2
    exact s_ret (em_var (K := K) rfl z2) fun v H3 e3 p => q v H3 ((e1.trans z1).trans e3) p
/-- for every number of calls -/
theorem c_aw (T : TB mg) (DD : DefAt K mg "all_ways" ["oneway", "rows", "a", "b"] s_aw) : ∀ f, Cal P w K mg base f "all_ways" ["oneway", "rows", "a", "b"] (SpM K (R_aw f))
  | 0 => by
    obtain ⟨f, fd, F, hm, hb⟩ := DD.ex
    have no : ∀ vs H Q E, ¬ SpM K (R_aw 0) vs H Q E := fun vs H Q E h => by
      obtain ⟨ds, r, _, ⟨_, _, _, _, _, _, _, _, _, _, h1, _⟩, _⟩ := h
      omega
    exact ⟨f, fd, ⟨fun vs H Q E h => absurd h (no vs H Q E), fun A outer s H args us vs Q E _ _ _ _ h => absurd h (no vs H Q E)⟩, hm, F.kp, hb⟩
  | f + 1 => c_awS T (c_aw T DD f) DD
/-! rings_of -/
def ringsL (n : Nat) (R : List Road) (d : Nat → Nat → Int) (a b : Nat) : List (List Nat) := (aw R d b n a).flatMap fun p => (aw R d a n b).map fun q => p ++ q.tail
def R_ro (ds r : List PyData) : Prop := ∃ (n : Nat) (ws : List Int) (R : List Road) (d : Nat → Nat → Int) (a b : Nat), Web n ws R d ∧ a < n ∧ b < n ∧ ds = [webD ws R, rowsD n d, .int a, .int b] ∧ r = (ringsL n R d a b).map natsD
theorem sc_ro : FnScope ["oneway", "rows", "a", "b", "found", "there", "back"] ["oneway", "rows", "a", "b"] (defScope s_ro) := ⟨rfl, rfl, rfl, by decide +kernel, rfl, by decide +kernel, by decide +kernel⟩
theorem Cal.mono {j k : Nat} {x : Str} {ps : List Str} {sp : Sp} (C : Cal P w K mg base j x ps sp) (h : j ≤ k) : Cal P w K mg base k x ps sp := by
  obtain ⟨f, fd, G, hm, hk, hb⟩ := C.ex
  exact ⟨f, fd, G.mono h, hm, hk, hb⟩
theorem aw_spec {n : Nat} {ws : List Int} {R : List Road} {d : Nat → Nat → Int} {a b : Nat} (CA : ∀ f, Cal P w K mg base f "all_ways" ["oneway", "rows", "a", "b"] (SpM K (R_aw f))) (W : Web n ws R d) :
    Cal P w K mg base 6 "all_ways" ["oneway", "rows", "a", "b"] (SpM K (R_aw n)) := (CA n).mono W.n6
theorem flat_bound {α β : Type} {B : Nat} {F : α → List β} : ∀ {l : List α}, (∀ x ∈ l, (F x).length ≤ B) → (l.flatMap F).length ≤ l.length * B
  | [], _ => by simp
  | x :: l, h => by
    have i := flat_bound (l := l) fun y hy => h y (List.mem_cons_of_mem _ hy)
    have h1 := h x List.mem_cons_self
    rw [List.flatMap_cons, List.length_append, List.length_cons, Nat.add_mul]
    omega
theorem tail_cut (q : List Nat) : PyData.tuple (cutL (q.map fun k : Nat => PyData.int (k : Int)) (some 1) none) = natsD q.tail := by
  unfold cutL natsD
  have e1 : HT.sIx (q.map fun k : Nat => PyData.int (k : Int)).length 0 (some 1) = min 1 q.length := by
    rw [List.length_map]
    exact HT.sIx_nat q.length 0 1
  have e2 : HT.sIx (q.map fun k : Nat => PyData.int (k : Int)).length (q.map fun k : Nat => PyData.int (k : Int)).length none = q.length := List.length_map _
  rw [e1, e2]
  cases q with
  | nil => rfl
  | cons x r =>
    have e3 : min 1 (x :: r).length = 1 := by rw [List.length_cons]; omega
    rw [e3, List.map_cons, List.drop_succ_cons, List.drop_zero, List.tail_cons, List.take_of_length_le (by rw [List.length_map, List.length_cons]; omega)]
theorem c_ro (T : TB mg) (CA' : ∀ f, Cal P w K mg base f "all_ways" ["oneway", "rows", "a", "b"] (SpM K (R_aw f))) (DD : DefAt K mg "rings_of" ["oneway", "rows", "a", "b"] s_ro) : Cal P w K mg base 7 "rings_of" ["oneway", "rows", "a", "b"] (SpM K R_ro) := by
  refine DD.cal sc_ro (SpM.len fun ds r h => ?_) (fun fa cdv A outer s H vs Q E hr h => ?_)
  · obtain ⟨_, _, _, _, _, _, _, _, _, rfl, _⟩ := h
    rfl
  obtain ⟨ds, r, hv, ⟨n, ws, R, d, a, b, W, ha, hb, rfl, rfl⟩, q⟩ := h
  obtain ⟨v1, v2, v3, v4, rfl, h1, h2, h3, h4⟩ := dps4 hv
  cases h3
  cases h4
  have CA := aw_spec (a := a) (b := b) CA' W
  refine ⟨_, (pss_cons (ps_set (i := 4) sc_ro.nd rfl (Or.inl rfl) (pe_lst pa_nil))
    (pss_cons (ps_for PassesOwn.never rfl (k_pilist K (pe_callC CA (hr.mono (by decide)) rfl (pa_cons (pv 0) (pa_cons (pv 1) (pa_cons (pv 2) (pa_cons (pv 3) pa_nil)))))) (pg_name (i := 5) sc_ro.nd rfl (Or.inr rfl))
      (pss_one (ps_set (i := 4) sc_ro.nd rfl (Or.inl rfl) (pe_op op_cat (pv 4) (pe_lc (own := [("back", 6)]) (g := (gName 6)) rfl sc_ro.nd (k_pilist K (pe_callC CA (hr.mono (by decide)) rfl (pa_cons (pv 0) (pa_cons (pv 1) (pa_cons (pv 3) (pa_cons (pv 2) pa_nil)))))) (blkOk_by (own := [("back", 6)]) (N := ["oneway", "rows", "a", "b", "found", "there", "back"]) (sc := defScope s_ro) (by decide +kernel)) (fun _ _ _ _ _ => (pg_name (i := 6) sc_ro.nd rfl (Or.inl rfl))) (fun _ _ _ _ _ => pts_nil) (fun _ _ _ _ _ => (pe_op (k_catT K) (pv 5) (pe_slice (k_slT K) (pv 6) (po_some pe_int) po_none))))))))
    (pss_one (ps_ret (pv 4))))), ?_⟩
  have n6 := W.n6
  have hlA : (aw R d b n a).length ≤ 3125 := aw_small W ha n6
  have hlB : (aw R d a n b).length ≤ 3125 := aw_small W hb n6
  generalize hF : (fun p : List Nat => (aw R d a n b).map fun q => p ++ q.tail) = F
  have hlF : ∀ l : List (List Nat), (l.flatMap F).length ≤ l.length * 3125 := fun l => flat_bound fun p _ => by
    rw [← hF]
    show ((aw R d a n b).map _).length ≤ 3125
    rw [List.length_map]
    exact hlB
  have hlM : ((aw R d b n a).map natsD).length = (aw R d b n a).length := List.length_map _
  refine q_asg (em_lst (K := K) (ds := []) ea_nil (by simp)) fun v5 H1 e1 h5 => ?_
  have h1a := dp_same e1 _ _ h1
  have h2a := dp_same e1 _ _ h2
  refine q_forN (K := K) (ei_lst (ds := (aw R d b n a).map natsD) (EvM.toD (ep_call (ea_cons (ed_var rfl h1a) (ea_cons (ed_var rfl h2a) (ea_cons (ed_vari rfl) (ea_cons (ed_vari rfl) ea_nil)))) (spM_of ⟨n, ws, R, d, a, b, W, ha, hb, n6, rk_lt_n ha, rfl, rfl⟩))))
    (fun Hb i σ' H' => Same H1 Hb ∧ Same Hb H' ∧ ∃ u4 : V, ML K H' u4 ((((aw R d b n a).take i).flatMap F).map natsD) ∧ ∃ u5 : Option V, σ' = [some v1, some v2, some (.int (a : Int)), some (.int (b : Int)), some u4, u5, none])
    (fun H2 e2 => ⟨e2, Same.refl _, v5, h5.same e2, none, rfl⟩) (fun Hb i σ' H' _ z => z.2.1) (fun Hb i e x σ' H' H3 he z e3 hx => ?_) fun Hb σ' H' z => ?_
  · obtain ⟨z0, z1, u4, z2, u5, rfl⟩ := z
    rw [List.getElem?_map] at he
    obtain ⟨p, hp, rfl⟩ := Option.map_eq_some_iff.mp he
    have hpl := aw_plen n a p (List.mem_of_getElem? hp)
    have eall := (z0.trans z1).trans e3
    refine s_asg (em_cat (K := K) (em_var rfl (z2.same e3)) (EvM.is (em_lcN (K := K) (ei_lst (ds := (aw R d a n b).map natsD) (EvM.toD (ep_call (ea_cons (ed_var rfl (dp_same eall _ _ h1a)) (ea_cons (ed_var rfl (dp_same eall _ _ h2a)) (ea_cons (ed_vari rfl) (ea_cons (ed_vari rfl) ea_nil)))) (spM_of ⟨n, ws, R, d, b, a, W, hb, ha, n6, rk_lt_n hb, rfl, rfl⟩))))
      (fun _ => true) (fun k => natsD (p ++ ((aw R d a n b).getD k []).tail)) (fun _ => rfl) (by rw [List.length_map]; omega) (fun _ _ _ => td_nats _) fun k e w' H4 he2 e4 hw => ⟨eb_yes, fun _ => ?_⟩) (show _ = (F p).map natsD from ?_)) ?_) fun v6 H4 e4 h6 => ⟨z0, (z1.trans e3).trans e4, v6, ?_, _, rfl⟩
    · rw [List.getElem?_map] at he2
      obtain ⟨p2, hp2, rfl⟩ := Option.map_eq_some_iff.mp he2
      have ep : (aw R d a n b).getD k [] = p2 := by rw [List.getD_eq_getElem?_getD, hp2] <;> rfl
      rw [ep]
      have hpl2 := aw_plen n b p2 (List.mem_of_getElem? hp2)
      refine EvD.is (ed_op (ed_var rfl (dp_same e4 _ _ hx)) (EvD.is (ed_slT (ed_var rfl hw) (eo_some (K := K) ed_int) eo_none) (tail_cut p2)) (ro_catT ?_)) ?_
      · rw [List.length_map, List.length_map, List.length_tail]
        omega
      · show PyData.tuple (_ ++ _) = PyData.tuple _
        rw [← List.map_append]
    · rw [givenD_all, List.length_map]
      have z := range_mapF (aw R d a n b) (id) [] fun q => natsD (p ++ q.tail)
      rw [List.map_id] at z
      rw [← hF]
      show _ = ((aw R d a n b).map fun q => p ++ q.tail).map natsD
      rw [List.map_map]
      exact z
    · rw [List.length_map, List.length_map]
      have t1 := hlF ((aw R d b n a).take (i + 1))
      have t2 : ((aw R d b n a).take (i + 1)).length ≤ 3125 := by rw [List.length_take]; omega
      rw [flat_next hp, List.length_append] at t1
      have t3 := Nat.mul_le_mul_right 3125 t2
      omega
    · rw [flat_next hp, List.map_append]
      exact h6
  · obtain ⟨z0, z1, u4, z2, u5, rfl⟩ := z
    rw [hlM, List.take_length, ← hF] at z2
    exact s_ret (em_var (K := K) rfl z2) fun v H3 e3 p => q v H3 (((e1.trans z0).trans z1).trans e3) p
/-! round_ring -/
def ringOf (n : Nat) (R : List Road) (d : Nat → Nat → Int) (a b : Nat) : PyData := if a = b then natsD [a] else PySem.W.Datum.toD (bestOf (⟨[]⟩ : PySem.W.Tup Int) ((ringsL n R d a b).map natsT))
def R_rr (ds : List PyData) (r : PyData) : Prop := ∃ (n : Nat) (ws : List Int) (R : List Road) (d : Nat → Nat → Int) (a b : Nat), Web n ws R d ∧ a < n ∧ b < n ∧ (a ≠ b → ringsL n R d a b ≠ []) ∧ ds = [webD ws R, .int a, .int b] ∧ r = ringOf n R d a b
theorem sc_rr : FnScope ["oneway", "a", "b", "point", "rows"] ["oneway", "a", "b"] (defScope s_rr) := ⟨rfl, rfl, rfl, by decide +kernel, rfl, by decide +kernel, by decide +kernel⟩
theorem c_rr (T : TB mg) (CNO : CalD P w K mg base 3 "need_oneway" ["oneway"] R_no) (CI : CalD P w K mg base 1 "is_in" ["value", "least", "most"] R_isin) (CRT : CalD P w K mg base 1 "rows_there" ["oneway"] R_rt) (CRO : Cal P w K mg base 7 "rings_of" ["oneway", "rows", "a", "b"] (SpM K R_ro))
    (DD : DefAt K mg "round_ring" ["oneway", "a", "b"] s_rr) : CalD P w K mg base 8 "round_ring" ["oneway", "a", "b"] R_rr := by
  refine DD.cal sc_rr (SpD.len fun ds r h => ?_) (fun fa cdv A outer s H vs Q E hr h => ?_)
  · obtain ⟨_, _, _, _, _, _, _, _, _, _, rfl, _⟩ := h
    rfl
  obtain ⟨ds, r, hv, ⟨n, ws, R, d, a, b, W, ha, hb, hne, rfl, rfl⟩, q⟩ := h
  obtain ⟨v1, v2, v3, rfl, h1, h2, h3⟩ := dps3 hv
  cases h2
  cases h3
  refine ⟨_, (pss_cons (ps_expr (pe_callC CNO (hr.mono (by decide)) rfl (pa_cons (pv 0) pa_nil)))
    (pss_cons (ps_for PassesOwn.never rfl (k_pitup K (pe_tup (pa_cons (pv 1) (pa_cons (pv 2) pa_nil)))) (pg_name (i := 3) sc_rr.nd rfl (Or.inl rfl))
      (pss_one (ps_if (pt_not (pt_val (pe_callC CI (hr.mono (by decide)) rfl (pa_cons (pv 3) (pa_cons pe_int (pa_cons (pe_op op_sub (pe_callB (k_len K) rfl T.len (by decide +kernel) (pa_cons (pe_ix (k_ixT K) (pv 0) pe_int (fun _ _ => rfl)) pa_nil)) pe_int) pa_nil)))))) (pss_one ps_never) pss_nil)))
    (pss_cons (ps_if (pt_cmpR op_eq (pv 1) (pv 2) (nomark _)) (pss_one (ps_ret (pe_tup (pa_cons (pv 1) pa_nil)))) pss_nil)
    (pss_cons (ps_set (i := 4) sc_rr.nd rfl (Or.inl rfl) (pe_callC CRT (hr.mono (by decide)) rfl (pa_cons (pv 0) pa_nil)))
    (pss_one (ps_ret (pe_callB (k_minD (PySem.W.Tup Int) K (roomT hr)) rfl T.min (by decide +kernel) (pa_cons (pe_callC CRO (hr.mono (by decide)) rfl (pa_cons (pv 0) (pa_cons (pv 4) (pa_cons (pv 1) (pa_cons (pv 2) pa_nil))))) pa_nil)))))))), ?_⟩
  have hlw : (ws.map PyData.int).length = n := by rw [List.length_map, W.wl]
  refine q_drop (ep_call (ea_cons (ed_var rfl h1) ea_nil) (spD_of ⟨n, ws, R, d, W, rfl, rfl⟩)) fun _ H1 e1 _ => ?_
  have h1a := dp_same e1 _ _ h1
  refine q_forN (K := K) (ei_tup (ds := [.int (a : Int), .int (b : Int)]) (ed_tup (ea_cons (ed_vari rfl) (ea_cons (ed_vari rfl) ea_nil)) (by simp))) (fun Hb i σ' H' => Same H1 Hb ∧ Same Hb H' ∧ ∃ u : Option V, σ' = [some v1, some (.int (a : Int)), some (.int (b : Int)), u, none])
    (fun H2 e2 => ⟨e2, Same.refl _, none, rfl⟩) (fun Hb i σ' H' _ z => z.2.1) (fun Hb i e x σ' H' H3 he z e3 hx => ?_) fun Hb σ' H' z => ?_
  · obtain ⟨z0, z1, u, rfl⟩ := z
    have hc : ∃ c : Nat, c < n ∧ e = .int (c : Int) := by
      match i, he with
      | 0, he => cases he; exact ⟨a, ha, rfl⟩
      | 1, he => cases he; exact ⟨b, hb, rfl⟩
    obtain ⟨c, hc, rfl⟩ := hc
    cases hx
    refine s_no (EvB.is (eb_not (eb_B (ep_call (ea_cons (ed_vari rfl) (ea_cons ed_int (ea_cons (ed_op (ep_cb (ea_cons (ed_op (ed_var rfl (dp_same ((z0.trans z1).trans e3) _ _ h1a)) ed_int (ro_ixT (d := intsD ws) rfl)) ea_nil) (rc_lenT hlw)) ed_int ro_sub) ea_nil))) (spD_of ⟨_, _, _, rfl, rfl⟩)))) ?_) fun H4 e4 => ⟨z0, (z1.trans e3).trans e4, _, rfl⟩
    rw [decide_eq_true (show (0 : Int) ≤ c by omega), decide_eq_true (show (c : Int) ≤ n - 1 by omega)] <;> rfl
  obtain ⟨z0, z1, u, rfl⟩ := z
  have h1b := dp_same (z0.trans z1) _ _ h1a
  by_cases hab : a = b
  · refine q_if (b := true) (EvB.is (eb_test (K := K) (ed_op (ed_vari rfl) (ed_vari rfl) ro_eq)) (decide_eq_true (by rw [hab]))) (fun _ H3 e3 => ?_) (fun z => nomatch z)
    refine s_ret (ed_tup (K := K) (ds := [.int (a : Int)]) (ea_cons (ed_vari rfl) ea_nil) (by simp)) fun v H4 e4 p => q v H4 (((e1.trans (z0.trans z1)).trans e3).trans e4) ?_
    have e : ringOf n R d a b = natsD [a] := if_pos hab
    rw [e]
    exact p
  refine q_no (EvB.is (eb_test (K := K) (ed_op (ed_vari rfl) (ed_vari rfl) ro_eq)) (decide_eq_false (by omega))) fun H3 e3 => ?_
  have h1c := dp_same e3 _ _ h1b
  refine q_asgD (ep_call (ea_cons (ed_var rfl h1c) ea_nil) (spD_of (rt_web W))) fun v5 H4 e4 h5 => ?_
  have h1d := dp_same e4 _ _ h1c
  have hn := hne hab
  have eR : ringOf n R d a b = PySem.W.Datum.toD (bestOf (⟨[]⟩ : PySem.W.Tup Int) ((ringsL n R d a b).map natsT)) := if_neg hab
  rw [eR] at q
  cases hcs : ringsL n R d a b with
  | nil => exact absurd hcs hn
  | cons x l =>
    rw [hcs] at q
    refine s_ret (ep_cb (ds := [.list ((natsT x :: l.map natsT).map PySem.W.Datum.toD)]) (ea_cons (EvD.is (EvM.toD (ep_call (ea_cons (ed_var rfl h1d) (ea_cons (ed_var rfl h5) (ea_cons (ed_vari rfl) (ea_cons (ed_vari rfl) ea_nil)))) (spM_of ⟨n, ws, R, d, a, b, W, ha, hb, rfl, rfl⟩))) ?_) ea_nil) (rc_minD rfl)) fun v H5 e5 p => q v H5 ((((e1.trans (z0.trans z1)).trans e3).trans e4).trans e5) p
    rw [hcs, ← List.map_cons (f := natsT), List.map_map]
    refine congrArg PyData.list (List.map_congr_left fun p _ => ?_)
    exact (natsT_D p).symm
end
end K7
/-! ### part 9: the law's helpers that reckon -/
namespace K7
open PySem L2
section
variable {K : PySem.W.Frag}
theorem dec_blV (a b : Bool) : decide (V.bl a = V.bl b) = decide (a = b) := by
  by_cases h : a = b
  · rw [decide_eq_true h, decide_eq_true (by rw [h])]
  · rw [decide_eq_false h, decide_eq_false (by intro z; cases z; exact h rfl)]
theorem ro_eqB {a b : Bool} : ROD K rEq (.bool a) (.bool b) (.bool (decide (a = b))) := fun H1 x y hx hy Q q => by
  rw [dp_bl hx, dp_bl hy]
  refine ⟨rfl, ?_⟩
  refine q _ H1 (Same.refl _) ?_
  rw [dec_blV]
  exact .bl _
theorem ro_neB {a b : Bool} : ROD K rNe (.bool a) (.bool b) (.bool (!decide (a = b))) := fun H1 x y hx hy Q q => by
  rw [dp_bl hx, dp_bl hy]
  refine ⟨rfl, ?_⟩
  refine q _ H1 (Same.refl _) ?_
  rw [dec_blV]
  exact .bl _
end
def setsF : Nat → List (List Nat)
  | 0 => [[]]
  | k + 1 => setsF k ++ (setsF k).map (· ++ [k])
theorem sets_eq : ∀ n ∈ [2, 3, 4, 5, 6], (setsF n).filter (fun hs => decide (hs ≠ [])) = allSets n := by decide +kernel
theorem setsF_len : ∀ n, (setsF n).length = 2 ^ n
  | 0 => rfl
  | n + 1 => by
    show (setsF n ++ (setsF n).map _).length = _
    rw [List.length_append, List.length_map, setsF_len n, Nat.pow_succ]
    omega
theorem setsF_plen : ∀ n p, p ∈ setsF n → p.length ≤ n
  | 0, p, h => by rw [List.mem_singleton.mp h]; exact Nat.le_refl _
  | n + 1, p, h => by
    have h' : p ∈ setsF n ++ (setsF n).map (· ++ [n]) := h
    rcases List.mem_append.mp h' with h | h
    · have := setsF_plen n p h
      omega
    · obtain ⟨q, hq, rfl⟩ := List.mem_map.mp h
      have := setsF_plen n q hq
      rw [List.length_append]; rw [List.length_singleton]
      omega
/-- numbers, and tuples of such, below f deep -/
def IT : Nat → PyData → Prop
  | 0, _ => False
  | f + 1, d => (∃ i, d = .int i) ∨ ∃ ds, d = .tuple ds ∧ ds.length ≤ 1000 ∧ ∀ e ∈ ds, IT f e
section
variable {P : Program} {w : World} {K : PySem.W.Frag} {mg : Str → Option Value} {base : Heap}
/-! _law_alike -/
def R_al (f : Nat) (ds : List PyData) (r : PyData) : Prop := ∃ x, IT f x ∧ ds = [x, x] ∧ r = .bool true
theorem sc_al : FnScope ["_law_found", "_law_due", "_law_k"] ["_law_found", "_law_due"] (defScope s_al) := ⟨rfl, rfl, rfl, by decide +kernel, rfl, by decide +kernel, by decide +kernel⟩
theorem c_alS (T : TB mg) {f : Nat} (CA : CalD P w K mg base f "_law_alike" ["_law_found", "_law_due"] (R_al f)) (DD : DefAt K mg "_law_alike" ["_law_found", "_law_due"] s_al) : CalD P w K mg base (f + 1) "_law_alike" ["_law_found", "_law_due"] (R_al (f + 1)) := by
  refine DD.cal sc_al (SpD.len fun ds r h => ?_) (fun fa cdv A outer s H vs Q E hr h => ?_)
  · obtain ⟨_, _, rfl, _⟩ := h
    rfl
  obtain ⟨ds, r, hv, ⟨x, hx, rfl, rfl⟩, q⟩ := h
  obtain ⟨v1, v2, rfl, h1, h2⟩ := dps2 hv
  refine ⟨_, (pss_cons (ps_if (pt_val (pe_callB (k_isiT K) rfl T.isinstance (by decide +kernel) (pa_cons (pv 1) (pa_cons (pe_tup (pa_cons (pe_bltn (v := .ty "tuple") rfl T.tuple (by decide +kernel) rfl) (pa_cons (pe_bltn (v := .ty "list") rfl T.list (by decide +kernel) rfl) pa_nil))) pa_nil)))) (pss_cons (ps_if (PW.pt (pw_or (pt_not (pt_val (pe_callB (k_isiT K) rfl T.isinstance (by decide +kernel) (pa_cons (pv 0) (pa_cons (pe_tup (pa_cons (pe_bltn (v := .ty "tuple") rfl T.tuple (by decide +kernel) rfl) (pa_cons (pe_bltn (v := .ty "list") rfl T.list (by decide +kernel) rfl) pa_nil))) pa_nil))))) (pw_or1 (pt_cmpR op_ne (pe_callB (k_isi K) rfl T.isinstance (by decide +kernel) (pa_cons (pv 0) (pa_cons (pe_bltn (v := .ty "list") rfl T.list (by decide +kernel) rfl) pa_nil))) (pe_callB (k_isi K) rfl T.isinstance (by decide +kernel) (pa_cons (pv 1) (pa_cons (pe_bltn (v := .ty "list") rfl T.list (by decide +kernel) rfl) pa_nil))) (nomark _))))) (pss_one (ps_ret pe_bl)) pss_nil)
    (pss_cons (ps_if (pt_cmpR op_ne (pe_callB (k_len K) rfl T.len (by decide +kernel) (pa_cons (pv 0) pa_nil)) (pe_callB (k_len K) rfl T.len (by decide +kernel) (pa_cons (pv 1) pa_nil)) (nomark _)) (pss_one (ps_ret pe_bl)) pss_nil)
    (pss_one (ps_ret (pe_cmpR (k_eqD K hr.units) (pe_lc (own := [("_law_k", 2)]) (g := (gName 2)) rfl sc_al.nd (pi_range1 rfl T.range (pa_cons (pe_callB (k_len K) rfl T.len (by decide +kernel) (pa_cons (pv 1) pa_nil)) pa_nil)) (blkOk_by (own := [("_law_k", 2)]) (N := ["_law_found", "_law_due", "_law_k"]) (sc := defScope s_al) (by decide +kernel)) (fun _ _ _ _ _ => (pg_name (i := 2) sc_al.nd rfl (Or.inl rfl))) (fun _ _ _ _ _ => (pts_one (pt_not (pt_val (pe_callC CA hr rfl (pa_cons (pe_ix (k_ixT K) (pv 0) (pv 2) (fun _ _ => rfl)) (pa_cons (pe_ix (k_ixT K) (pv 1) (pv 2) (fun _ _ => rfl)) pa_nil))))))) (fun _ _ _ _ _ => (pv 2))) (pe_lst pa_nil) (nomark _)))))) pss_nil)
    (pss_cons (ps_if (PW.pt (pw_or (pt_cmpR op_isN (pv 1) pe_non (nomark _)) (pw_or1 (pt_val (pe_callB (k_isi K) rfl T.isinstance (by decide +kernel) (pa_cons (pv 1) (pa_cons (pe_bltn (v := .ty "str") rfl T.str (by decide +kernel) rfl) pa_nil))))))) (pss_one (ps_ret (pe_and (pe_cmpR op_eq (pv 0) (pv 1) (nomark _)) (pe_one (pe_cmpR op_eq (pe_callB (k_isi K) rfl T.isinstance (by decide +kernel) (pa_cons (pv 0) (pa_cons (pe_bltn (v := .ty "str") rfl T.str (by decide +kernel) rfl) pa_nil))) (pe_callB (k_isi K) rfl T.isinstance (by decide +kernel) (pa_cons (pv 1) (pa_cons (pe_bltn (v := .ty "str") rfl T.str (by decide +kernel) rfl) pa_nil))) (nomark _)))))) pss_nil)
    (pss_one (ps_ret (pe_and (pe_callB (k_isi K) rfl T.isinstance (by decide +kernel) (pa_cons (pv 0) (pa_cons (pe_bltn (v := .ty "int") rfl T.int (by decide +kernel) rfl) pa_nil))) (pe_and (pe_cmpR op_eq (pe_callB (k_isi K) rfl T.isinstance (by decide +kernel) (pa_cons (pv 0) (pa_cons (pe_bltn (v := .ty "bool") rfl T.bool (by decide +kernel) rfl) pa_nil))) (pe_callB (k_isi K) rfl T.isinstance (by decide +kernel) (pa_cons (pv 1) (pa_cons (pe_bltn (v := .ty "bool") rfl T.bool (by decide +kernel) rfl) pa_nil))) (nomark _)) (pe_one (pe_cmpR op_eq (pv 0) (pv 1) (nomark _))))))))), ?_⟩
  rcases hx with ⟨i, rfl⟩ | ⟨ds, rfl, hl, hall⟩
  · refine q_if (b := false) (EvB.is (eb_B (ed_isiT (ed_var rfl h2) kit_it kit_il)) rfl) (fun z => nomatch z) fun _ H1 e1 => ?_
    have h1a := dp_same e1 _ _ h1
    have h2a := dp_same e1 _ _ h2
    refine q_if (b := false) (EvB.is (eb_or (eb_test (ed_op (ed_var rfl h2a) ed_non (ro_isN isN_int))) fun _ => eb_B (ed_isi (ed_var rfl h2a) kit_is)) rfl) (fun z => nomatch z) fun _ H2 e2 => ?_
    have h1b := dp_same e2 _ _ h1a
    have h2b := dp_same e2 _ _ h2a
    refine s_ret (EvD.is (ed_andV (ed_isi (ed_var rfl h1b) kit_ii) fun _ => ed_andV (ed_op (ed_isi (ed_var rfl h1b) kit_ib) (ed_isi (ed_var rfl h2b) kit_ib) ro_eqB) fun _ => ed_op (ed_var rfl h1b) (ed_var rfl h2b) ro_eq) ?_) fun v H3 e3 p => q v H3 ((e1.trans e2).trans e3) p
    rw [decide_eq_true rfl, decide_eq_true rfl] <;> rfl
  · refine q_if (b := true) (EvB.is (eb_B (ed_isiT (ed_var rfl h2) kit_tt kit_tl)) rfl) (fun _ H1 e1 => ?_) fun z => nomatch z
    have h1a := dp_same e1 _ _ h1
    have h2a := dp_same e1 _ _ h2
    refine q_no (EvB.is (eb_or (eb_not (eb_B (ed_isiT (ed_var rfl h1a) kit_tt kit_tl))) fun _ => eb_test (ed_op (ed_isi (ed_var rfl h1a) kit_tl) (ed_isi (ed_var rfl h2a) kit_tl) ro_neB)) rfl) fun H2 e2 => ?_
    have h1b := dp_same e2 _ _ h1a
    have h2b := dp_same e2 _ _ h2a
    refine q_no (EvB.is (eb_test (ed_op (ep_cb (ea_cons (ed_var rfl h1b) ea_nil) (rc_lenT (n := ds.length) rfl)) (ep_cb (ea_cons (ed_var rfl h2b) ea_nil) (rc_lenT (n := ds.length) rfl)) ro_ne)) ?_) fun H3 e3 => ?_
    · rw [decide_eq_true rfl] <;> rfl
    have h1c := dp_same e3 _ _ h1b
    have h2c := dp_same e3 _ _ h2b
    refine s_ret (ed_op (EvM.toD (em_lcR (K := K) (n := ds.length) (ea_cons (ep_cb (ea_cons (ed_var rfl h2c) ea_nil) (rc_lenT rfl)) ea_nil) (by omega) (fun _ => false) (fun _ => .none) (fun _ => rfl) (fun _ _ z => nomatch z) fun k H4 hk e4 => ⟨?_, fun z => nomatch z⟩)) (EvM.toD (em_lst ea_nil (by simp))) (ro_eqD (b := true) ?_ shaped_nil ?_)) fun v H4 e4 p => q v H4 (((e1.trans e2).trans e3).trans e4) p
    · have hd : atI ds (k : Int) = some ds[k] := atI_nat (List.getElem?_eq_getElem hk)
      refine EvB.is (eb_not (eb_B (ep_call (ea_cons (ed_op (ed_var rfl (dp_same e4 _ _ h1c)) (ed_vari rfl) (ro_ixT hd)) (ea_cons (ed_op (ed_var rfl (dp_same e4 _ _ h2c)) (ed_vari rfl) (ro_ixT hd)) ea_nil)) (spD_of ⟨ds[k], hall _ (List.getElem_mem hk), rfl, rfl⟩)))) rfl
    · rw [givenD_nil fun _ _ => rfl]
      exact shaped_nil
    · rw [givenD_nil fun _ _ => rfl] <;> rfl
theorem c_al (T : TB mg) (DD : DefAt K mg "_law_alike" ["_law_found", "_law_due"] s_al) : ∀ f, CalD P w K mg base f "_law_alike" ["_law_found", "_law_due"] (R_al f)
  | 0 => by
    obtain ⟨f, fd, F, hm, hb⟩ := DD.ex
    have no : ∀ vs H Q E, ¬ SpD K (R_al 0) vs H Q E := fun vs H Q E h => by
      obtain ⟨ds, r, _, ⟨_, h1, _⟩, _⟩ := h
      exact h1
    exact ⟨f, fd, ⟨fun vs H Q E h => absurd h (no vs H Q E), fun A outer s H args us vs Q E _ _ _ _ h => absurd h (no vs H Q E)⟩, hm, F.kp, hb⟩
  | f + 1 => c_alS T (c_al T DD f) DD
/-! _law_sets -/
def R_se (ds r : List PyData) : Prop := ∃ n : Nat, 2 ≤ n ∧ n ≤ 6 ∧ ds = [.int n] ∧ r = (allSets n).map natsD
theorem sc_se : FnScope ["_law_count", "_law_found", "_law_k", "_law_one"] ["_law_count"] (defScope s_se) := ⟨rfl, rfl, rfl, by decide +kernel, rfl, by decide +kernel, by decide +kernel⟩
theorem c_se (T : TB mg) (DD : DefAt K mg "_law_sets" ["_law_count"] s_se) : Cal P w K mg base 1 "_law_sets" ["_law_count"] (SpM K R_se) := by
  refine DD.cal sc_se (SpM.len fun ds r h => ?_) (fun fa cdv A outer s H vs Q E hr h => ?_)
  · obtain ⟨_, _, _, rfl, _⟩ := h
    rfl
  obtain ⟨ds, r, hv, ⟨n, n2, n6, rfl, rfl⟩, q⟩ := h
  obtain ⟨v1, rfl, h1⟩ := dps1 hv
  cases h1
  refine ⟨_, (pss_cons (ps_set (i := 1) sc_se.nd rfl (Or.inl rfl) (pe_lst (pa_cons (pe_tup pa_nil) pa_nil)))
    (pss_cons (ps_for PassesOwn.never rfl (pi_range1 rfl T.range (pa_cons (pv 0) pa_nil)) (pg_name (i := 2) sc_se.nd rfl (Or.inr rfl))
      (pss_one (ps_set (i := 1) sc_se.nd rfl (Or.inl rfl) (pe_op op_cat (pv 1) (pe_lc (own := [("_law_one", 3)]) (g := (gName 3)) rfl sc_se.nd (k_pilist K (pv 1)) (blkOk_by (own := [("_law_one", 3)]) (N := ["_law_count", "_law_found", "_law_k", "_law_one"]) (sc := defScope s_se) (by decide +kernel)) (fun _ _ _ _ _ => (pg_name (i := 3) sc_se.nd rfl (Or.inl rfl))) (fun _ _ _ _ _ => pts_nil) (fun _ _ _ _ _ => (pe_op (k_catT K) (pv 3) (pe_tup (pa_cons (pv 2) pa_nil)))))))))
    (pss_one (ps_ret (pe_lc (own := [("_law_one", 3)]) (g := (gName 3)) rfl sc_se.nd (k_pilist K (pv 1)) (blkOk_by (own := [("_law_one", 3)]) (N := ["_law_count", "_law_found", "_law_k", "_law_one"]) (sc := defScope s_se) (by decide +kernel)) (fun _ _ _ _ _ => (pg_name (i := 3) sc_se.nd rfl (Or.inl rfl))) (fun _ _ _ _ _ => (pts_one (pt_cmpR (k_neD K hr.units) (pv 3) (pe_tup pa_nil) (nomark _)))) (fun _ _ _ _ _ => (pv 3))))))), ?_⟩
  have hp : ∀ k, k ≤ 6 → 2 ^ k ≤ 64 := fun k hk => Nat.pow_le_pow_right (n := 2) (by decide) hk
  refine q_asg (em_lst (K := K) (ds := [natsD []]) (ea_cons (ed_tup (ds := []) ea_nil (by simp)) ea_nil) (by simp)) fun v2 H1 e1 h2 => ?_
  refine q_for (K := K) (H0 := H) (ei_rng1 (n := n) (ea_cons (ed_vari rfl) ea_nil) (by omega)) e1 (fun i σ' H' => Same H H' ∧ ∃ u : V, ML K H' u ((setsF i).map natsD) ∧ ∃ u2 : Option V, σ' = [some (.int (n : Int)), some u, u2, none])
    (fun H2 e2 => ⟨e1.trans e2, v2, h2.same e2, none, rfl⟩) (fun i σ' H' _ z => z.1) (fun k e x σ' H' H3 he z e3 hx => ?_) fun σ' H' z => ?_
  · obtain ⟨hk, rfl⟩ := rngD_get' he
    rw [show (0 : Int) + (k : Int) = (k : Int) from Int.zero_add _] at hx
    cases hx
    obtain ⟨z1, u, z2, u2, rfl⟩ := z
    have z3 := z2.same e3
    have lk := setsF_len k
    have pk := hp k (by omega)
    refine s_asg (em_cat (K := K) (em_var rfl z3) (EvM.is (em_lcN (K := K) (ei_lstV rfl z3.dp).i (fun _ => true) (fun j => natsD ((setsF k).getD j [] ++ [k])) (fun _ => rfl) (by rw [List.length_map]; omega) (fun _ _ _ => td_nats _) fun j e y H4 he2 e4 hy => ⟨eb_yes, fun _ => ?_⟩) (show _ = ((setsF k).map (· ++ [k])).map natsD from ?_)) ?_) fun v6 H4 e4 h6 => ⟨(z1.trans e3).trans e4, v6, ?_, _, rfl⟩
    · rw [List.getElem?_map] at he2
      obtain ⟨p, hp2, rfl⟩ := Option.map_eq_some_iff.mp he2
      have ep : (setsF k).getD j [] = p := by rw [List.getD_eq_getElem?_getD, hp2] <;> rfl
      rw [ep]
      have hpl := setsF_plen k p (List.mem_of_getElem? hp2)
      refine EvD.is (ed_op (ed_var rfl hy) (ed_tup (ds := [.int (k : Int)]) (ea_cons (ed_vari rfl) ea_nil) (by simp)) (ro_catT ?_)) ?_
      · rw [List.length_map, List.length_singleton]
        omega
      · unfold natsD
        rw [List.map_append] <;> rfl
    · rw [givenD_all, List.length_map]
      have z := range_mapF (setsF k) (id) [] fun q => natsD (q ++ [k])
      rw [List.map_id] at z
      rw [List.map_map]
      exact z
    · rw [List.length_map, List.length_map, List.length_map]
      omega
    · show ML K H4 v6 ((setsF k ++ (setsF k).map (· ++ [k])).map natsD)
      rw [List.map_append]
      exact h6
  · obtain ⟨z1, u, z2, u2, rfl⟩ := z
    rw [rngD_len] at z2
    have ln := setsF_len n
    have pn := hp n n6
    refine s_ret (EvM.is (em_lcN (K := K) (ei_lstV rfl z2.dp).i (fun j => decide ((setsF n).getD j [] ≠ [])) (fun j => natsD ((setsF n).getD j [])) (fun _ => rfl) (by rw [List.length_map]; omega) (fun _ _ _ => td_nats _) fun j e y H4 he2 e4 hy => ?_) ?_) fun v H3 e3 p => q v H3 (z1.trans e3) p
    · rw [List.getElem?_map] at he2
      obtain ⟨p, hp2, rfl⟩ := Option.map_eq_some_iff.mp he2
      have ep : (setsF n).getD j [] = p := by rw [List.getD_eq_getElem?_getD, hp2] <;> rfl
      rw [ep]
      refine ⟨EvB.is (eb_test (K := K) (ed_op (EvD.is (ed_var rfl hy) (natsD_ints p)) (ed_tup ea_nil (by simp)) (ro_neD (b := decide (p ≠ [])) (shaped_ints _) shaped_nilT ?_))) rfl, fun _ => ed_var rfl hy⟩
      cases p with
      | nil => rfl
      | cons a r => rfl
    · rw [List.length_map, given_filter (setsF n) (fun hs => decide (hs ≠ [])) natsD [], sets_eq n (mem26 n2 n6)]
/-! _law_rows_there -/
def R_lr (ds : List PyData) (r : PyData) : Prop := ∃ (n : Nat) (ws : List Int) (R : List Road) (d : Nat → Nat → Int), Web n ws R d ∧ ds = [webD ws R] ∧ r = rowsD n d
theorem sc_lr : FnScope ["_law_oneway_here", "_law_count", "_law_i", "_law_rows", "_law_turn", "_law_a", "_law_b", "_law_length", "_law_j"] ["_law_oneway_here"] (defScope s_lr) := ⟨rfl, rfl, rfl, by decide +kernel, rfl, by decide +kernel, by decide +kernel⟩
theorem c_lr (T : TB mg) (DD : DefAt K mg "_law_rows_there" ["_law_oneway_here"] s_lr) : CalD P w K mg base 1 "_law_rows_there" ["_law_oneway_here"] R_lr := by
  refine DD.cal sc_lr (SpD.len fun ds r h => ?_) (fun fa cdv A outer s H vs Q E hr h => ?_)
  · obtain ⟨_, _, _, _, _, rfl, _⟩ := h
    rfl
  obtain ⟨ds, r, hv, ⟨n, ws, R, d, W, rfl, rfl⟩, q⟩ := h
  obtain ⟨v1, rfl, h1⟩ := dps1 hv
  refine ⟨_, (pss_cons (ps_set (i := 1) sc_lr.nd rfl (Or.inr rfl) (pe_callB (k_len K) rfl T.len (by decide +kernel) (pa_cons (pe_ix (k_ixT K) (pv 0) pe_int (fun _ _ => rfl)) pa_nil)))
    (pss_cons (ps_setLc (i := 3) (own := [("_law_i", 2)]) (g := (gName 2)) rfl sc_lr.nd rfl rfl (sw_true rfl rfl rfl (by decide +kernel)) (pi_range1 rfl T.range (pa_cons (pv 1) pa_nil)) (blkOk_by (own := [("_law_i", 2)]) (N := ["_law_oneway_here", "_law_count", "_law_i", "_law_rows", "_law_turn", "_law_a", "_law_b", "_law_length", "_law_j"]) (sc := defScope s_lr) (by decide +kernel)) (fun _ _ _ _ _ => (pg_name (i := 2) sc_lr.nd rfl (Or.inr rfl))) (fun _ _ _ _ _ => pts_nil) (fun _ _ _ _ _ => (pe_lc (own := [("_law_j", 8)]) (g := (gName 8)) rfl sc_lr.nd (pi_range1 rfl T.range (pa_cons (pv 1) pa_nil)) (blkOk_by (own := [("_law_j", 8)]) (N := ["_law_oneway_here", "_law_count", "_law_i", "_law_rows", "_law_turn", "_law_a", "_law_b", "_law_length", "_law_j"]) (sc := relS (scp (retE ((defBody s_lr).getD 1 (.Pass ⟨0, 0, 0, 0⟩)))) (defScope s_lr)) (by decide +kernel)) (fun _ _ _ _ _ => (pg_name (i := 8) sc_lr.nd rfl (Or.inl rfl))) (fun _ _ _ _ _ => pts_nil) (fun _ _ _ _ _ => (pe_ifExp (pt_cmpR op_eq (pv 2) (pv 8) (nomark _)) pe_int (pe_op op_pow pe_int pe_int))))))
    (pss_cons (ps_for PassesOwn.never rfl (pi_range1 rfl T.range (pa_cons (pv 1) pa_nil)) (pg_name (i := 4) sc_lr.nd rfl (Or.inl rfl))
      (pss_one (ps_for PassesOwn.never rfl (k_pitup K (pe_ix (k_ixT K) (pv 0) pe_int (fun _ _ => rfl))) (k_gtup K (pgs_cons (pg_name (i := 5) sc_lr.nd rfl (Or.inl rfl)) (pgs_cons (pg_name (i := 6) sc_lr.nd rfl (Or.inl rfl)) (pgs_cons (pg_name (i := 7) sc_lr.nd rfl (Or.inl rfl)) pgs_nil))))
      (pss_one (ps_for PassesOwn.never rfl (pi_range1 rfl T.range (pa_cons (pv 1) pa_nil)) (pg_name (i := 2) sc_lr.nd rfl (Or.inl rfl))
      (pss_one (ps_asg (pe_callB k_min2 rfl T.min (by decide +kernel) (pa_cons (pe_ix (k_ixL K) (pe_ix (k_ixL K) (pv 3) (pv 2) (fun _ _ => rfl)) (pv 6) (fun _ _ => rfl)) (pa_cons (pe_op op_add (pe_ix (k_ixL K) (pe_ix (k_ixL K) (pv 3) (pv 2) (fun _ _ => rfl)) (pv 5) (fun _ _ => rfl)) (pv 7)) pa_nil))) (pg_sub (pe_ix (k_ixL K) (pv 3) (pv 2) (fun _ _ => rfl)) (pv 6) set_list))))))))
    (pss_one (ps_ret (pv 3)))))), ?_⟩
  have n6 := W.n6
  have hlw : (ws.map PyData.int).length = n := by rw [List.length_map, W.wl]
  have hlr : (R.map roadD).length = R.length := List.length_map _
  refine q_asgI (n := (n : Int)) (ep_cb (ea_cons (ed_op (ed_var rfl h1) ed_int (ro_ixT (d := intsD ws) rfl)) ea_nil) (rc_lenT hlw)) fun H2 e2 => ?_
  have h1b := dp_same e2 _ _ h1
  refine q_asgMt (emt_lc (K := K) (n := n) (M := m0 1000000) (ei_rng1 (n := n) (ea_cons (ed_vari rfl) ea_nil) (by omega)).i (rngD_len 0 n) (by omega) (fun _ => rfl) fun i d x H3 hd e3 hx => ?_) fun a H3 e3 hM => ?_
  · obtain ⟨hi, rfl⟩ := rngD_get' hd
    rw [show (0 : Int) + (i : Int) = (i : Int) from Int.zero_add _] at hx
    cases hx
    rw [rowV_ints]
    refine ef_lcN (K := K) (ei_rng1 (n := n) (ea_cons (ed_vari rfl) ea_nil) (by omega)).i (fun _ => true) (fun j => .int (m0 1000000 i j)) (by rw [givenD_all, rngD_len, List.map_map]; rfl) (fun _ => rfl) (by rw [rngD_len]; omega) (fun _ _ _ => rfl) fun j d y H4 hd2 e4 hy => ⟨eb_yes, fun _ => ?_⟩
    obtain ⟨hj, rfl⟩ := rngD_get' hd2
    rw [show (0 : Int) + (j : Int) = (j : Int) from Int.zero_add _] at hy
    cases hy
    refine ep_if (b := decide (i = j)) (EvB.is (eb_test (K := K) (ed_op (ed_vari rfl) (ed_vari rfl) ro_eq)) ?_) (fun hb => ?_) fun hb => ?_
    · by_cases z : i = j
      · rw [decide_eq_true z, decide_eq_true (by omega)]
      · rw [decide_eq_false z, decide_eq_false (by omega)]
    · refine EvD.is ed_int ?_
      show _ = PyData.int (if i = j then 0 else 1000000)
      rw [if_pos (of_decide_eq_true hb)]
    · refine EvD.is (ed_op ed_int ed_int (ro_I ⟨by decide, by decide, by decide⟩ fun _ => .int _)) ?_
      show _ = PyData.int (if i = j then 0 else 1000000)
      rw [if_neg (of_decide_eq_false hb)]
      rfl
  refine q_for (K := K) (H0 := H2) (ei_rng1 (n := n) (ea_cons (ed_vari rfl) ea_nil) (by omega)) e3 (fun t σ' H' => Same H2 H' ∧ Mt H2 H' a n (bfT n t R (m0 1000000)) ∧ ∃ u2 u4 u5 u6 u7 : Option V, σ' = [some v1, some (.int (n : Int)), u2, some (.ref a), u4, u5, u6, u7, none])
    (fun H4 e4 => ⟨e3.trans e4, hM.same e4, none, none, none, none, none, rfl⟩) (fun i σ' H' _ p => p.1) (fun t e x σ' H' H4 he p e4 hx => ?_) fun σ' H' p => ?_
  · obtain ⟨p1, p2, u2, u4, u5, u6, u7, rfl⟩ := p
    have h1c := dp_same (p1.trans e4) _ _ h1b
    refine s_for (K := K) (H0 := H2) (ei_tupIx (v := v1) rfl h1b rfl) (p1.trans e4) (fun i σ' H' => Same H2 H' ∧ Mt H2 H' a n (bfR n (R.take i) (bfT n t R (m0 1000000))) ∧ ∃ u2 u4 u5 u6 u7 : Option V, σ' = [some v1, some (.int (n : Int)), u2, some (.ref a), u4, u5, u6, u7, none])
      (fun H5 e5 => ⟨(p1.trans e4).trans e5, p2.same (e4.trans e5), _, _, _, _, _, rfl⟩) (fun i σ' H' _ p => p.1) (fun i e y σ' H5 H6 he2 p e6 hy => ?_) fun σ' H5 p => ?_
    · obtain ⟨r1, r2, u2, u4, u5, u6, u7, rfl⟩ := p
      obtain ⟨ro, hro, rfl⟩ := roads_get he2
      have gro := W.rd ro (List.mem_of_getElem? hro)
      obtain ⟨x1, x2, x3, y1, y2, y3, hq⟩ := g_tup3 (σ := [some v1, some (.int (n : Int)), u2, some (.ref a), u4, u5, u6, u7, none]) (i := 5) (j := 6) (k := 7) hy
      cases y1
      cases y2
      cases y3
      refine hq _ ?_
      refine s_for (K := K) (H0 := H2) (ei_rng1 (n := n) (ea_cons (ed_vari rfl) ea_nil) (by omega)) (r1.trans e6) (fun m σ' H' => Same H2 H' ∧ Mt H2 H' a n (bfI n m ro (bfR n (R.take i) (bfT n t R (m0 1000000)))) ∧ ∃ u2 : Option V, σ' = [some v1, some (.int (n : Int)), u2, some (.ref a), u4, some (.int (ro.1 : Int)), some (.int (ro.2.1 : Int)), some (.int ro.2.2), none])
        (fun H7 e7 => ⟨(r1.trans e6).trans e7, r2.same (e6.trans e7), _, rfl⟩) (fun i σ' H' _ p => p.1) (fun m e z σ' H7 H8 he3 p e8 hz => ?_) fun σ' H7 p => ?_
      · obtain ⟨hm, rfl⟩ := rngD_get' he3
        rw [show (0 : Int) + (m : Int) = (m : Int) from Int.zero_add _] at hz
        cases hz
        obtain ⟨w1, w2, u2, rfl⟩ := p
        generalize hM' : bfI n m ro (bfR n (R.take i) (bfT n t R (m0 1000000))) = M' at w2
        have hd' : Dp K H8 (.ref a) (rowsD n M') := (w2.same e8).dp
        refine s_setM (K := K) (i := m) (j := ro.2.1) (v := min (M' m ro.2.1) (M' m ro.1 + ro.2.2)) rfl rfl rfl hm gro.2.1 (w1.trans e8) (w2.same e8) (ep_cb (ea_cons (ed_op (ed_op (ed_var rfl hd') (ed_vari rfl) (ro_ixL (rows_at hm))) (ed_vari rfl) (ro_ixL (row_at gro.2.1))) (ea_cons (ed_op (ed_op (ed_op (ed_var rfl hd') (ed_vari rfl) (ro_ixL (rows_at hm))) (ed_vari rfl) (ro_ixL (row_at gro.1))) (ed_vari rfl) ro_add) ea_nil)) rc_min2) fun Hc ec mc => ⟨ec, ?_, _, rfl⟩
        have e0 : bfI n (m + 1) ro (bfR n (R.take i) (bfT n t R (m0 1000000))) = upd2 (bfI n m ro (bfR n (R.take i) (bfT n t R (m0 1000000)))) m ro.2.1 (min (bfI n m ro (bfR n (R.take i) (bfT n t R (m0 1000000))) m ro.2.1) (bfI n m ro (bfR n (R.take i) (bfT n t R (m0 1000000))) m ro.1 + ro.2.2)) := by
          unfold bfI
          rw [foldl_succ]
        rw [e0, hM']
        exact mc
      · obtain ⟨w1, w2, u2, rfl⟩ := p
        rw [rngD_len] at w2
        refine ⟨w1, ?_, _, _, _, _, _, rfl⟩
        have e0 : bfR n (R.take (i + 1)) (bfT n t R (m0 1000000)) = bfI n n ro (bfR n (R.take i) (bfT n t R (m0 1000000))) := by
          unfold bfR
          rw [foldl_take _ _ hro]
        rw [e0]
        exact w2
    · obtain ⟨r1, r2, u2, u4, u5, u6, u7, rfl⟩ := p
      rw [hlr, List.take_length] at r2
      refine ⟨r1, ?_, _, _, _, _, _, rfl⟩
      have e0 : bfT n (t + 1) R (m0 1000000) = bfR n R (bfT n t R (m0 1000000)) := by unfold bfT; rw [foldl_succ]
      rw [e0]
      exact r2
  · obtain ⟨p1, p2, u2, u4, u5, u6, u7, rfl⟩ := p
    rw [rngD_len] at p2
    have hd' : Dp K H' (.ref a) (rowsD n d) := by
      have z := p2.dp (K := K)
      have e : rowsD n (bfT n n R (m0 1000000)) = rowsD n d := rowsD_congr fun i j hi hj => bf_web W i j hi hj
      rw [e] at z
      exact z
    exact s_ret (ed_var rfl hd') fun v H5 e5 p => q v H5 ((e2.trans p1).trans e5) p
end
end K7
/-! ### part 10: the draws -/
namespace K7
open PySem L2
/-- all but the object at rl is as it was -/
def But (rl : Addr) (H H' : Hp) : Prop := ∀ b o, b ≠ rl → H b = some o → H' b = some o
theorem But.refl (rl : Addr) (H : Hp) : But rl H H := fun _ _ _ h => h
theorem But.trans {rl : Addr} {H H1 H2 : Hp} (a : But rl H H1) (b : But rl H1 H2) : But rl H H2 := fun c o hc h => b c o hc (a c o hc h)
theorem _root_.L2.Same.but {rl : Addr} {H H' : Hp} (e : Same H H') : But rl H H' := fun c o _ h => e c o h
theorem But.upd {rl : Addr} {H H' : Hp} {o : HO} (h : But rl H H') : But rl H (upd H' rl o) := fun c u hc q => by rw [upd_ne hc]; exact h c u hc q
/-- the heap without the object at rl -/
def hide (rl : Addr) (H : Hp) : Hp := fun b => if b = rl then none else H b
theorem hide_none {rl : Addr} {H : Hp} : hide rl H rl = none := if_pos rfl
theorem hide_but {rl : Addr} {H H' : Hp} (h : But rl H H') : Same (hide rl H) H' := fun b o q => by
  unfold hide at q
  by_cases e : b = rl
  · rw [if_pos e] at q; cases q
  · rw [if_neg e] at q; exact h b o e q
theorem but_hide {rl : Addr} {H H' : Hp} (h : Same (hide rl H) H') : But rl H H' := fun b o e q => h b o (by unfold hide; rw [if_neg e]; exact q)
theorem _root_.L2.Same.butB {rl : Addr} {B H H' : Hp} (hB : B rl = none) (h : Same B H) (e : But rl H H') : Same B H' := fun b o q => e b o (ne_of_none q hB) (h b o q)
/-- the row of the draws: the script and three numbers -/
def LR (K : PySem.W.Frag) (H : Hp) (rl sc : Addr) (ns : List Int) : Prop := ∃ (a b c : Int), H rl = some (.lst [.ref sc, .int a, .int b, .int c]) ∧ SqL K H sc (ns.map V.int) ∧ ns.length ≤ 63 ∧ 0 ≤ a ∧ 0 ≤ b ∧ b < 2147483647
section
variable {K : PySem.W.Frag} {H H' : Hp} {rl sc0 : Addr} {ns0 : List Int}
theorem ints_no_ref {sc : Addr} {ns : List Int} {r : List V} : ns.map V.int ≠ V.ref sc :: r := fun e => by
  cases ns with
  | nil => cases e
  | cons n ns => injection e with e1 _; cases e1
theorem sql_but {p sc : Addr} {ns : List Int} {r : List V} (h : SqL K H p (ns.map V.int)) (hr : H rl = some (.lst (.ref sc :: r))) (e : But rl H H') : SqL K H' p (ns.map V.int) := by
  rcases h with (h | ⟨o, h⟩) | (h : _)
  · exact .inl (.inl (e _ _ (ne_of h hr (by intro z; injection z with z; exact ints_no_ref z)) h))
  · exact .inl (.inr ⟨o, e _ _ (ne_of h hr (by intro z; cases z)) h⟩)
  · exact .inr h
theorem LR.get (h : LR K H rl sc0 ns0) : ∃ sc r, H rl = some (.lst (.ref sc :: r)) := by
  obtain ⟨a, b, c, h1, _⟩ := h
  exact ⟨_, _, h1⟩
theorem LR.same (e : Same H H') (h : LR K H rl sc0 ns0) : LR K H' rl sc0 ns0 := by
  obtain ⟨a, b, c, h1, h2, h3⟩ := h
  exact ⟨a, b, c, e _ _ h1, e.seq h2, h3⟩
theorem LR.sc (h : LR K H rl sc0 ns0) : SqL K (hide rl H) sc0 (ns0.map V.int) := by
  obtain ⟨a, b, c, h1, h2, h3⟩ := h
  rcases h2 with (h2 | ⟨o, h2⟩) | h2
  · refine .inl (.inl ?_)
    unfold hide
    rw [if_neg (ne_of h2 h1 (by intro z; injection z with z; exact ints_no_ref z))]
    exact h2
  · refine .inl (.inr ⟨o, ?_⟩)
    unfold hide
    rw [if_neg (ne_of h2 h1 (by intro z; cases z))]
    exact h2
  · exact .inr h2
/-- another object was changed -/
theorem LR.mut {B : Hp} {p : Addr} (hs : SqL K B sc0 (ns0.map V.int)) (e : Same B H') (hp : rl ≠ p) (b : But p H H') (h : LR K H rl sc0 ns0) : LR K H' rl sc0 ns0 := by
  obtain ⟨x, y, c, h1, h2, h3⟩ := h
  exact ⟨x, y, c, b _ _ hp h1, e.seq hs, h3⟩
theorem But.tk (h : LR K H rl sc0 ns0) (e : But rl H H') : TKeep H H' := by
  obtain ⟨sc, r, hr⟩ := h.get
  exact ⟨fun b xs q => e _ _ (ne_of q hr (by intro z; cases z)) q, fun b o u q => e _ _ (ne_of q hr (by intro z; cases z)) q⟩
theorem dp_but {d : PyData} {v : V} (h : LR K H rl sc0 ns0) (e : But rl H H') (t : TD d = true) (hd : Dp K H v d) : Dp K H' v d := dp_tk (But.tk h e) _ _ t hd
theorem dpl_but {ns : List Int} {v : V} (h : LR K H rl sc0 ns0) (e : But rl H H') (hd : Dp K H v (.list (ns.map .int))) : Dp K H' v (.list (ns.map .int)) := by
  obtain ⟨sc, r, hr⟩ := h.get
  obtain ⟨a, xs, rfl, hs, hall⟩ := dp_lst hd
  rw [dps_ints hall] at hs
  exact .lst (sql_but hs hr e) (dps_of_ints _)
/-- xs stays a list that grows, beside the row -/
theorem GL.but {B : Hp} {l : Addr} {ds : List PyData} (hB : B rl = none) (hl : l ≠ rl) (h : LR K H rl sc0 ns0) (e : But rl H H') (t : TDs ds = true) (g : GL K B H l ds) : GL K B H' l ds := by
  obtain ⟨g1, g2, vs, g3, g4⟩ := g
  exact ⟨g1, g2.butB hB e, vs, e _ _ hl g3, dps_tk (But.tk h e) _ _ t g4⟩
theorem GL.rebase {B : Hp} {l : Addr} {ds : List PyData} (e : Same B H) (g : GL K H H' l ds) : GL K B H' l ds := by
  obtain ⟨g1, g2, g3⟩ := g
  exact ⟨Same.free e g1, e.trans g2, g3⟩
theorem lr_of {sc : Addr} {ns : List Int} {a b c : Int} (h1 : H rl = some (.lst [.ref sc, .int a, .int b, .int c])) (h2 : SqL K H sc (ns.map V.int)) (h3 : ns.length ≤ 63) (h4 : 0 ≤ a) (h5 : 0 ≤ b) (h6 : b < 2147483647) : LR K H rl sc ns := ⟨a, b, c, h1, h2, h3, h4, h5, h6⟩
theorem row_dp {sc : Addr} {ns : List Int} {a b c : Int} (h1 : H rl = some (.lst [.ref sc, .int a, .int b, .int c])) (h2 : SqL K H sc (ns.map V.int)) : Dp K H (.ref rl) (.list [.list (ns.map .int), .int a, .int b, .int c]) :=
  .lst (SqL.of h1) (.cons (.lst h2 (dps_of_ints _)) (.cons (.int a) (.cons (.int b) (.cons (.int c) .nil))))
variable {σ : St} {D : Ends} {te ta : TE} {tz : TS} {d : PyData}
theorem s_setR {i : Nat} {k : Int} {xs : List V} {v : Int} (hσ : σ[0]? = some (some (.ref rl))) (hR : H rl = some (.lst xs)) (h : EvD K te σ H (.int v)) (kk : ∀ H', But rl H H' → H' rl = some (.lst (xs.set i (.int v))) → D.nx σ H') (hi : ixN xs.length k = some i := by rfl) :
    tAsg te (gSub (tVar 0) (tC (.int k)) rSetL) D σ H := h H (Same.refl _) _ fun w H1 e p => by
  rw [dp_int p]
  exact ⟨_, hσ, rl, xs, k, i, rfl, rfl, e _ _ hR, hi, kk _ e.but.upd upd_same⟩
theorem q_setR {i : Nat} {k : Int} {xs : List V} {v : Int} (hσ : σ[0]? = some (some (.ref rl))) (hR : H rl = some (.lst xs)) (h : EvD K te σ H (.int v)) (kk : ∀ H', But rl H H' → H' rl = some (.lst (xs.set i (.int v))) → tz D σ H') (hi : ixN xs.length k = some i := by rfl) :
    tSeq (tAsg te (gSub (tVar 0) (tC (.int k)) rSetL)) tz D σ H := s_setR (D := { D with nx := tz D }) hσ hR h kk hi
theorem em_rg {n : Nat} (h : EvD K te σ H (.int (n : Int))) (hn : n ≤ 100000) : EvM K (tLstRg (tRg1 te)) σ H (((List.range n).map fun k : Nat => (k : Int)).map .int) := fun H1 e Q q =>
  h H1 e _ fun v H2 e2 p => ⟨n, dp_int p, RgOk.of_le (Int.le_refl _) (by omega) (by omega) (by omega), fun l hl => q _ _ (e2.trans (same_new hl)) ⟨l, _, rfl, upd_same, by
    have z : rgV 0 (n : Int) = ((List.range n).map fun k : Nat => (k : Int)).map V.int := by
      unfold rgV
      rw [show ((n : Int) - 0).toNat = n by omega, List.map_map]
      exact List.map_congr_left fun k _ => by simp
    rw [z]
    exact dps_of_ints _⟩⟩
/-! the draw -/
def spTk (K : PySem.W.Frag) : Sp := fun vs H Q _ => ∃ (rl sc : Addr) (ns : List Int) (m : Int), vs = [.ref rl, .int m] ∧ LR K H rl sc ns ∧ 1 ≤ m ∧ m ≤ 1000 ∧ ∀ (v : Int) H', 0 ≤ v → v < m → LR K H' rl sc ns → But rl H H' → Q (.int v) H'
/-- a draw, read -/
theorem t_tk {r : Nat} {m : Int} {E : XK} {Q : VK} (hr : σ[r]? = some (some (.ref rl))) (hL : LR K H rl sc0 ns0) (hm : EvD K te σ H (.int m)) (m1 : 1 ≤ m) (m2 : m ≤ 1000) (k : ∀ (v : Int) H', 0 ≤ v → v < m → LR K H' rl sc0 ns0 → But rl H H' → Q (.int v) H') :
    tCall (spTk K) [] E (tCons (tVar r) (tCons te tNil)) σ H Q := ⟨_, hr, hm H (Same.refl _) _ fun w H1 e p => by
  rw [dp_int p]
  exact ⟨rl, sc0, ns0, m, rfl, hL.same e, m1, m2, fun v H' v0 v1 l b => k v H' v0 v1 l (e.but.trans b)⟩⟩
end
section
variable {P : Program} {w : World} {K : PySem.W.Frag} {mg : Str → Option Value} {base : Heap}
theorem sc_tk : FnScope ["_law_row", "_law_many", "_law_found", "_law_cell"] ["_law_row", "_law_many"] (defScope s_tk) := ⟨rfl, rfl, rfl, by decide +kernel, rfl, by decide +kernel, by decide +kernel⟩
theorem c_tk (T : TB mg) (DD : DefAt K mg "_law_taken" ["_law_row", "_law_many"] s_tk) : Cal P w K mg base 1 "_law_taken" ["_law_row", "_law_many"] (spTk K) := by
  refine DD.cal sc_tk (fun vs H Q E h => ?_) (fun fa cdv A outer s H vs Q E hr h => ?_)
  · obtain ⟨_, _, _, _, rfl, _⟩ := h
    rfl
  obtain ⟨rl, sc, ns, m, rfl, ⟨a, b, c, hR, hS, h63, a0, b0, b1⟩, m1, m2, q⟩ := h
  refine ⟨_, (pss_cons (ps_if (pt_cmpR op_gt (pe_ix (k_ixL K) (pv 0) pe_int (fun _ _ => rfl)) pe_int (nomark _)) (pss_cons (ps_set (i := 2) sc_tk.nd rfl (Or.inl rfl) (pe_op op_mod (pe_callTy k_int rfl T.int (by decide +kernel) (pa_cons (pe_ix (k_ixL K) (pv 0) pe_int (fun _ _ => rfl)) pa_nil)) (pv 1)))
    (pss_cons (ps_asg (pe_op op_fdiv (pe_ix (k_ixL K) (pv 0) pe_int (fun _ _ => rfl)) (pv 1)) (pg_sub (pv 0) pe_int set_list))
    (pss_one (ps_ret (pv 2))))) pss_nil)
    (pss_cons (ps_asg (pe_op op_add (pe_ix (k_ixL K) (pv 0) pe_int (fun _ _ => rfl)) pe_int) (pg_sub (pv 0) pe_int set_list))
    (pss_cons (ps_if (pt_cmpR op_gt (pe_ix (k_ixL K) (pv 0) pe_int (fun _ _ => rfl)) (pe_callB (k_len K) rfl T.len (by decide +kernel) (pa_cons (pe_ix (k_ixL K) (pv 0) pe_int (fun _ _ => rfl)) pa_nil)) (nomark _)) (pss_cons (ps_asg (pe_op op_mod (pe_callTy k_int rfl T.int (by decide +kernel) (pa_cons (pe_op op_add (pe_op op_mul (pe_ix (k_ixL K) (pv 0) pe_int (fun _ _ => rfl)) pe_int) pe_int) pa_nil)) pe_int) (pg_sub (pv 0) pe_int set_list))
    (pss_one (ps_ret (pe_op op_mod (pe_callTy k_int rfl T.int (by decide +kernel) (pa_cons (pe_op op_fdiv (pe_ix (k_ixL K) (pv 0) pe_int (fun _ _ => rfl)) pe_int) pa_nil)) (pv 1))))) pss_nil)
    (pss_cons (ps_set (i := 3) sc_tk.nd rfl (Or.inl rfl) (pe_ix (k_ixL K) (pe_ix (k_ixL K) (pv 0) pe_int (fun _ _ => rfl)) (pe_op op_sub (pe_ix (k_ixL K) (pv 0) pe_int (fun _ _ => rfl)) pe_int) (fun _ _ => rfl)))
    (pss_cons (ps_asg (pe_op op_mod (pe_callTy k_int rfl T.int (by decide +kernel) (pa_cons (pe_op op_add (pe_op op_add (pe_op op_mul (pe_ix (k_ixL K) (pv 0) pe_int (fun _ _ => rfl)) pe_int) (pv 3)) pe_int) pa_nil)) pe_int) (pg_sub (pv 0) pe_int set_list))
    (pss_cons (ps_if (pt_cmpR op_ge (pv 3) (pe_op op_pow pe_int pe_int) (nomark _)) (pss_one (ps_asg (pe_op op_fdiv (pv 3) (pv 1)) (pg_sub (pv 0) pe_int set_list))) pss_nil)
    (pss_one (ps_ret (pe_op op_mod (pe_callTy k_int rfl T.int (by decide +kernel) (pa_cons (pv 3) pa_nil)) (pv 1)))))))))), ?_⟩
  have mk : ∀ {x : Int}, 0 ≤ x % m ∧ x % m < m := fun {x} => ⟨Int.emod_nonneg x (by omega), Int.emod_lt_of_pos x (by omega)⟩
  have mk2 : ∀ {x : Int}, 0 ≤ x % 2147483647 ∧ x % 2147483647 < 2147483647 := fun {x} => ⟨Int.emod_nonneg x (by omega), Int.emod_lt_of_pos x (by omega)⟩
  have hd := row_dp hR hS
  refine q_if (b := decide (0 < c)) (EvB.is (eb_test (K := K) (ed_op (ed_op (ed_var rfl hd) ed_int (ro_ixL (d := .int c) rfl)) ed_int ro_cmp)) rfl) (fun _ H1 e1 => ?_) (fun _ H1 e1 => ?_)
  · have hd1 := dp_same e1 _ _ hd
    refine q_asgI (n := c % m) (ed_op (ep_cb (ea_cons (ed_op (ed_var rfl hd1) ed_int (ro_ixL (d := .int c) rfl)) ea_nil) rc_int) (ed_vari rfl) (ro_I (by omega) fun _ => .int _)) fun H2 e2 => ?_
    have hd2 := dp_same e2 _ _ hd1
    refine q_setR (K := K) (i := 3) (v := c / m) rfl ((e1.trans e2) _ _ hR) (ed_op (ed_op (ed_var rfl hd2) ed_int (ro_ixL (d := .int c) rfl)) (ed_vari rfl) (ro_I ⟨by omega, by omega⟩ fun _ => .int _)) fun H3 e3 h3 => ?_
    have eb : But rl H H3 := (e1.trans e2).but.trans e3
    exact s_ret (ed_vari (K := K) rfl) fun v H4 e4 p => by
      rw [dp_int p]
      exact q _ H4 mk.1 mk.2 (LR.same e4 (lr_of (a := a) (b := b) (c := c / m) h3 (sql_but hS hR eb) h63 a0 b0 b1)) (eb.trans e4.but)
  have hR1 := e1 _ _ hR
  have hd1 := dp_same e1 _ _ hd
  refine q_setR (K := K) (i := 1) (v := a + 1) rfl hR1 (ed_op (ed_op (ed_var rfl hd1) ed_int (ro_ixL (d := .int a) rfl)) ed_int ro_add) fun H2 e2 hR2 => ?_
  have eb2 : But rl H H2 := e1.but.trans e2
  have hS2 := sql_but hS hR eb2
  have hd2 : Dp K H2 (.ref rl) (.list [.list (ns.map .int), .int (a + 1), .int b, .int c]) := row_dp hR2 hS2
  have hln : (ns.map PyData.int).length = ns.length := List.length_map _
  refine q_if (b := decide ((ns.length : Int) < a + 1)) (EvB.is (eb_test (K := K) (ed_op (ed_op (ed_var rfl hd2) ed_int (ro_ixL (d := .int (a + 1)) rfl)) (ep_cb (ea_cons (ed_op (ed_var rfl hd2) ed_int (ro_ixL (d := .list (ns.map .int)) rfl)) ea_nil) (rc_lenL hln)) ro_cmp)) rfl) (fun _ H3 e3 => ?_) (fun hc H3 e3 => ?_)
  · have hR3 := e3 _ _ hR2
    have hd3 := dp_same e3 _ _ hd2
    refine q_setR (K := K) (i := 2) (v := (b * 48271 + 11) % 2147483647) rfl hR3 (ed_op (ep_cb (ea_cons (ed_op (ed_op (ed_op (ed_var rfl hd3) ed_int (ro_ixL (d := .int b) rfl)) ed_int (ro_mul (.inl ⟨by omega, by omega⟩))) ed_int ro_add) ea_nil) rc_int) ed_int (ro_I (by omega) fun _ => .int _)) fun H4 e4 hR4 => ?_
    have eb4 : But rl H H4 := (eb2.trans e3.but).trans e4
    have hS4 := sql_but hS hR eb4
    have hd4 : Dp K H4 (.ref rl) (.list [.list (ns.map .int), .int (a + 1), .int ((b * 48271 + 11) % 2147483647), .int c]) := row_dp hR4 hS4
    exact s_ret (ed_op (ep_cb (ea_cons (ed_op (ed_op (ed_var rfl hd4) ed_int (ro_ixL (d := .int ((b * 48271 + 11) % 2147483647)) rfl)) ed_int (ro_I (K := K) (g := fun i j => .int (i / j)) ⟨by omega, by omega⟩ fun _ => .int _)) ea_nil) rc_int) (ed_vari rfl) (ro_I (K := K) (g := fun i j => .int (i % j)) (by omega) fun _ => .int _)) fun v H5 e5 p => by
      rw [dp_int p]
      exact q _ H5 mk.1 mk.2 (LR.same e5 (lr_of hR4 hS4 h63 (by omega) mk2.1 mk2.2)) (eb4.trans e5.but)
  have hc' : a + 1 ≤ ns.length := by have := of_decide_eq_false hc; omega
  have hR3 := e3 _ _ hR2
  have hd3 := dp_same e3 _ _ hd2
  have hat : atI (ns.map PyData.int) (a + 1 - 1) = some (.int (ns.getD a.toNat 0)) := by
    have e : a + 1 - 1 = ((a.toNat : Nat) : Int) := by omega
    rw [e]
    refine atI_nat ?_
    rw [List.getElem?_map, List.getElem?_eq_getElem (by omega), List.getD_eq_getElem?_getD, List.getElem?_eq_getElem (by omega)] <;> rfl
  generalize ns.getD a.toNat 0 = x at hat
  refine q_asgI (n := x) (ed_op (ed_op (ed_var rfl hd3) ed_int (ro_ixL (d := .list (ns.map .int)) rfl)) (ed_op (ed_op (ed_var rfl hd3) ed_int (ro_ixL (d := .int (a + 1)) rfl)) ed_int ro_sub) (ro_ixL hat)) fun H4 e4 => ?_
  have hR4 := e4 _ _ hR3
  have hd4 := dp_same e4 _ _ hd3
  refine q_setR (K := K) (i := 2) (v := (b * 48271 + x + 11) % 2147483647) rfl hR4 (ed_op (ep_cb (ea_cons (ed_op (ed_op (ed_op (ed_op (ed_var rfl hd4) ed_int (ro_ixL (d := .int b) rfl)) ed_int (ro_mul (.inl ⟨by omega, by omega⟩))) (ed_vari rfl) ro_add) ed_int ro_add) ea_nil) rc_int) ed_int (ro_I (by omega) fun _ => .int _)) fun H5 e5 hR5 => ?_
  have eb5 : But rl H H5 := ((eb2.trans e3.but).trans e4.but).trans e5
  have hS5 := sql_but hS hR eb5
  have tenp : CPow 10 18 := ⟨by decide, by decide, by decide⟩
  refine q_if (b := decide ((10 : Int) ^ (18 : Int).toNat ≤ x)) (EvB.is (eb_test (K := K) (ed_op (ed_vari rfl) (ed_op ed_int ed_int (ro_I tenp fun _ => .int _)) ro_cmp)) rfl) (fun _ H6 e6 => ?_) (fun _ H6 e6 => ?_)
  · refine s_setR (K := K) (i := 3) (v := x / m) rfl (e6 _ _ hR5) (ed_op (ed_vari rfl) (ed_vari rfl) (ro_I ⟨by omega, by omega⟩ fun _ => .int _)) fun H7 e7 hR7 => ?_
    have eb7 : But rl H H7 := (eb5.trans e6.but).trans e7
    have hS7 := sql_but hS hR eb7
    exact s_ret (ed_op (ep_cb (ea_cons (ed_vari rfl) ea_nil) rc_int) (ed_vari rfl) (ro_I (K := K) (g := fun i j => .int (i % j)) (by omega) fun _ => .int _)) fun v H8 e8 p => by
      rw [dp_int p]
      exact q _ H8 mk.1 mk.2 (LR.same e8 (lr_of hR7 hS7 h63 (by omega) mk2.1 mk2.2)) (eb7.trans e8.but)
  · exact s_ret (ed_op (ep_cb (ea_cons (ed_vari rfl) ea_nil) rc_int) (ed_vari rfl) (ro_I (K := K) (g := fun i j => .int (i % j)) (by omega) fun _ => .int _)) fun v H8 e8 p => by
      rw [dp_int p]
      exact q _ H8 mk.1 mk.2 (LR.same (e6.trans e8) (lr_of hR5 hS5 h63 (by omega) mk2.1 mk2.2)) ((eb5.trans e6.but).trans e8.but)
end
end K7
/-! ### part 11: a drawn web is a web -/
namespace K7
def prevI (n k : Nat) : Nat := if k = 0 then n - 1 else k - 1
/-- the first roads of the ring through the points in the order o -/
structure RingOk (n : Nat) (o : List Nat) (G : List Road) : Prop where
  at_ : ∀ (k : Nat) (r : Road), G[k]? = some r → r.1 = o.getD (prevI n k) 0 ∧ r.2.1 = o.getD k 0 ∧ 1 ≤ r.2.2 ∧ r.2.2 ≤ 100
/-- roads without fault -/
structure RoadsOk (n : Nat) (R : List Road) : Prop where
  rd : ∀ r ∈ R, r.1 < n ∧ r.2.1 < n ∧ r.1 ≠ r.2.1 ∧ 1 ≤ r.2.2 ∧ r.2.2 ≤ 100
  nd : (R.map fun r => (r.1, r.2.1)).Nodup
theorem getD_get {l : List Nat} {k : Nat} (h : k < l.length) : l[k]? = some (l.getD k 0) := by
  rw [List.getD_eq_getElem?_getD, List.getElem?_eq_getElem h] <;> rfl
theorem getD_inj {o : List Nat} (nd : o.Nodup) {i j : Nat} (hi : i < o.length) (hj : j < o.length) (e : o.getD i 0 = o.getD j 0) : i = j :=
  L2.nd_ix nd (getD_get hi) (by rw [e]; exact getD_get hj)
theorem getD_lt {n : Nat} {o : List Nat} (hp : o.Perm (List.range n)) {k : Nat} (hk : k < n) : o.getD k 0 < n := by
  have hl : o.length = n := by rw [hp.length_eq, List.length_range]
  have hm : o.getD k 0 ∈ o := List.mem_of_getElem? (getD_get (l := o) (k := k) (by omega))
  exact List.mem_range.mp (hp.mem_iff.mp hm)
theorem prevI_lt {n k : Nat} (hn : 2 ≤ n) (hk : k < n) : prevI n k < n ∧ prevI n k ≠ k := by
  unfold prevI
  by_cases e : k = 0
  · rw [if_pos e]; omega
  · rw [if_neg e]; omega
theorem nodup_of_ix {α : Type} {l : List α} (h : ∀ (i j : Nat) (x : α), l[i]? = some x → l[j]? = some x → i = j) : l.Nodup := by
  induction l with
  | nil => exact List.nodup_nil
  | cons a r ih =>
    rw [List.nodup_cons]
    refine ⟨fun hm => ?_, ih fun i j x hi hj => ?_⟩
    · obtain ⟨k, hk⟩ := List.getElem?_of_mem hm
      have := h 0 (k + 1) a rfl hk
      omega
    · have := h (i + 1) (j + 1) x hi hj
      omega
theorem ring_roads {n : Nat} {o : List Nat} {G : List Road} (hn : 2 ≤ n) (hp : o.Perm (List.range n)) (hG : RingOk n o G) (hl : G.length ≤ n) : RoadsOk n G := by
  have ol : o.length = n := by rw [hp.length_eq, List.length_range]
  have nd : o.Nodup := hp.nodup_iff.mpr List.nodup_range
  refine ⟨fun r hr => ?_, nodup_of_ix fun i j x hi hj => ?_⟩
  · obtain ⟨k, hk⟩ := List.getElem?_of_mem hr
    have hkl := (List.getElem?_eq_some_iff.mp hk).1
    obtain ⟨h1, h2, h3, h4⟩ := hG.at_ k r hk
    have p := prevI_lt hn (k := k) (by omega)
    refine ⟨?_, ?_, ?_, h3, h4⟩
    · rw [h1]; exact getD_lt hp p.1
    · rw [h2]; exact getD_lt hp (by omega)
    · rw [h1, h2]
      exact fun e => p.2 (getD_inj nd (by omega) (by omega) e)
  · rw [List.getElem?_map] at hi hj
    obtain ⟨r, hr, e1⟩ := Option.map_eq_some_iff.mp hi
    obtain ⟨s, hs, e2⟩ := Option.map_eq_some_iff.mp hj
    have hil := (List.getElem?_eq_some_iff.mp hr).1
    have hjl := (List.getElem?_eq_some_iff.mp hs).1
    have a := (hG.at_ i r hr).2.1
    have b := (hG.at_ j s hs).2.1
    have e : r.2.1 = s.2.1 := by
      rw [← e2] at e1
      exact (Prod.mk.inj e1).2
    exact getD_inj nd (by omega) (by omega) (by rw [← a, ← b, e])
/-- the sum of the first lengths -/
def pre (G : List Road) (m : Nat) : Int := ((G.take m).map (·.2.2)).sum
theorem sum_snoc (xs : List Int) (x : Int) : (xs ++ [x]).sum = xs.sum + x := by
  rw [List.sum_append, List.sum_cons, List.sum_nil, Int.add_zero]
theorem pre_succ {G : List Road} {m : Nat} {r : Road} (h : G[m]? = some r) : pre G (m + 1) = pre G m + r.2.2 := by
  unfold pre
  rw [List.take_succ, h, List.map_append]
  exact sum_snoc _ _
theorem pre_mono {G : List Road} (h0 : ∀ r ∈ G, 0 ≤ r.2.2) {a : Nat} : ∀ m, pre G a ≤ pre G (a + m)
  | 0 => Int.le_refl _
  | m + 1 => by
    have ih := pre_mono h0 (a := a) m
    cases e : G[a + m]? with
    | none =>
      have z : pre G (a + (m + 1)) = pre G (a + m) := by
        unfold pre
        rw [show a + (m + 1) = a + m + 1 by omega, List.take_succ, e]
        simp
      rw [z]; exact ih
    | some r =>
      have z := pre_succ e
      have q := h0 r (List.mem_of_getElem? e)
      rw [show a + (m + 1) = a + m + 1 by omega, z]
      omega
theorem pre_le {G : List Road} (h0 : ∀ r ∈ G, 0 ≤ r.2.2) {a b : Nat} (h : a ≤ b) : pre G a ≤ pre G b := by
  have z := pre_mono h0 (a := a) (b - a)
  rw [show a + (b - a) = b by omega] at z
  exact z
theorem pre_all {G : List Road} {n : Nat} (h : G.length = n) : pre G n = (G.map (·.2.2)).sum := by
  unfold pre
  rw [List.take_of_length_le (by omega)]
theorem ring_walk {n : Nat} {o : List Nat} {G R : List Road} (hG : RingOk n o G) (hl : G.length = n) (hR : ∀ r ∈ G, r ∈ R) {p : Nat} : ∀ m, p + m < n → Walk R (o.getD p 0) (o.getD (p + m) 0) (pre G (p + m + 1) - pre G (p + 1))
  | 0, _ => by
    rw [Nat.add_zero, Int.sub_self]
    exact .nil _
  | m + 1, h => by
    have ih := ring_walk hG hl hR (p := p) m (by omega)
    have hk := List.getElem?_eq_getElem (l := G) (i := p + m + 1) (by omega)
    obtain ⟨h1, h2, _, _⟩ := hG.at_ _ _ hk
    have hp : prevI n (p + m + 1) = p + m := by
      unfold prevI
      rw [if_neg (by omega)]
      omega
    rw [hp] at h1
    have e := pre_succ hk
    have hm : (o.getD (p + m) 0, o.getD (p + m + 1) 0, (G[p + m + 1]).2.2) ∈ R := by
      have z := hR _ (List.mem_of_getElem? hk)
      rw [← h1, ← h2]
      exact z
    have z := ih.snoc hm
    rw [show p + (m + 1) = p + m + 1 by omega, e]
    rw [show pre G (p + m + 1) + G[p + m + 1].2.2 - pre G (p + 1) = pre G (p + m + 1) - pre G (p + 1) + G[p + m + 1].2.2 by omega]
    exact z
theorem ring_con {n : Nat} {o : List Nat} {G R : List Road} (hn : 2 ≤ n) (hp : o.Perm (List.range n)) (hG : RingOk n o G) (hl : G.length = n) (hR : ∀ r ∈ G, r ∈ R) {i j : Nat} (hi : i < n) (hj : j < n) : ∃ L, Walk R i j L ∧ L ≤ (G.map (·.2.2)).sum := by
  have ol : o.length = n := by rw [hp.length_eq, List.length_range]
  have ro := ring_roads hn hp hG (by omega)
  have h0 : ∀ r ∈ G, 0 ≤ r.2.2 := fun r hr => by have := (ro.rd r hr).2.2.2.1; omega
  have get : ∀ {i}, i < n → ∃ p, p < n ∧ o.getD p 0 = i := fun {i} hi => by
    obtain ⟨p, hp'⟩ := List.getElem?_of_mem (hp.mem_iff.mpr (List.mem_range.mpr hi))
    have hpl := (List.getElem?_eq_some_iff.mp hp').1
    exact ⟨p, by omega, by rw [List.getD_eq_getElem?_getD, hp'] <;> rfl⟩
  obtain ⟨p, hpn, rfl⟩ := get hi
  obtain ⟨q, hqn, rfl⟩ := get hj
  rw [← pre_all hl]
  have hz : 0 ≤ pre G (p + 1) := by
    have z := pre_le h0 (Nat.zero_le (p + 1))
    have e : pre G 0 = 0 := rfl
    omega
  by_cases h : p ≤ q
  · have z := ring_walk hG hl hR (p := p) (q - p) (by omega)
    rw [show p + (q - p) = q by omega] at z
    refine ⟨_, z, ?_⟩
    have a := pre_le h0 (show q + 1 ≤ n by omega)
    omega
  · have z1 := ring_walk hG hl hR (p := p) (n - 1 - p) (by omega)
    rw [show p + (n - 1 - p) = n - 1 by omega, show n - 1 + 1 = n by omega] at z1
    have z2 := ring_walk hG hl hR (p := 0) q (by omega)
    rw [Nat.zero_add] at z2
    have hk := List.getElem?_eq_getElem (l := G) (i := 0) (by omega)
    obtain ⟨h1, h2, _, _⟩ := hG.at_ _ _ hk
    have hp0 : prevI n 0 = n - 1 := if_pos rfl
    rw [hp0] at h1
    have e := pre_succ hk
    have e0 : pre G 0 = 0 := rfl
    have hm : (o.getD (n - 1) 0, o.getD 0 0, (G[0]).2.2) ∈ R := by
      have z := hR _ (List.mem_of_getElem? hk)
      rw [← h1, ← h2]
      exact z
    refine ⟨_, (z1.snoc hm).trans z2, ?_⟩
    have a := pre_le h0 (show q + 1 ≤ p + 1 by omega)
    rw [show (0 : Nat) + 1 = 1 from rfl] at e ⊢
    omega
theorem perm_sum {xs ys : List Int} (h : xs.Perm ys) : xs.sum = ys.sum := by
  induction h with
  | nil => rfl
  | cons x _ ih => rw [List.sum_cons, List.sum_cons, ih]
  | swap x y l => rw [List.sum_cons, List.sum_cons, List.sum_cons, List.sum_cons]; omega
  | trans _ _ i1 i2 => exact i1.trans i2
/-- the least walk -/
theorem least_walk {R : List Road} {i j : Nat} (h0 : ∀ r ∈ R, 0 ≤ r.2.2) : ∀ (m : Nat) (L : Int), Walk R i j L → L.toNat ≤ m → ∃ D, Walk R i j D ∧ ∀ L', Walk R i j L' → D ≤ L'
  | 0, L, h, hm => ⟨L, h, fun L' h' => by
    have a := h.nonneg h0
    have b := h'.nonneg h0
    omega⟩
  | m + 1, L, h, hm => by
    by_cases e : ∃ L', Walk R i j L' ∧ L' < L
    · obtain ⟨L', h1, h2⟩ := e
      have b := h1.nonneg h0
      exact least_walk h0 m L' h1 (by omega)
    · exact ⟨L, h, fun L' h' => Int.not_lt.mp fun z => e ⟨L', h', z⟩⟩
theorem make_web {n : Nat} {ws : List Int} {o : List Nat} {G R R' : List Road} (n2 : 2 ≤ n) (n6 : n ≤ 6) (wl : ws.length = n) (w0 : ∀ x ∈ ws, 0 ≤ x ∧ x ≤ 100) (wsum : 0 < ws.sum) (hp : o.Perm (List.range n)) (hG : RingOk n o G) (hl : G.length = n) (hGR : ∀ r ∈ G, r ∈ R)
    (hS : (G.map (·.2.2)).sum ≤ (R.map (·.2.2)).sum) (hR : RoadsOk n R) (hrl : R.length ≤ 20) (hp' : R'.Perm R) : ∃ d, Web n ws R' d := by
  have h0 : ∀ r ∈ R', 0 ≤ r.2.2 := fun r hr => by have := (hR.rd r (hp'.mem_iff.mp hr)).2.2.2.1; omega
  have hs : (R'.map (·.2.2)).sum = (R.map (·.2.2)).sum := perm_sum (hp'.map _)
  have con : ∀ i j, i < n → j < n → ∃ L, Walk R' i j L ∧ L ≤ (R'.map (·.2.2)).sum := fun i j hi hj => by
    obtain ⟨L, h1, h2⟩ := ring_con n2 hp hG hl (fun r hr => hp'.mem_iff.mpr (hGR r hr)) hi hj
    exact ⟨L, h1, by omega⟩
  have ex : ∀ i j, ∃ D, i < n → j < n → Walk R' i j D ∧ ∀ L', Walk R' i j L' → D ≤ L' := fun i j => by
    by_cases h : i < n ∧ j < n
    · obtain ⟨L, h1, _⟩ := con i j h.1 h.2
      obtain ⟨D, h2⟩ := least_walk h0 L.toNat L h1 (Nat.le_refl _)
      exact ⟨D, fun _ _ => h2⟩
    · exact ⟨0, fun a b => absurd ⟨a, b⟩ h⟩
  refine ⟨fun i j => Classical.choose (ex i j), n2, n6, wl, w0, wsum, by rw [hp'.length_eq]; exact hrl, fun r hr => hR.rd r (hp'.mem_iff.mp hr), (hp'.map _).nodup_iff.mpr hR.nd, con, fun i j hi hj => (Classical.choose_spec (ex i j) hi hj).1, fun i j L hi hj h => (Classical.choose_spec (ex i j) hi hj).2 L h⟩
theorem roads_snoc {n : Nat} {R : List Road} {r : Road} (h : RoadsOk n R) (h1 : r.1 < n ∧ r.2.1 < n ∧ r.1 ≠ r.2.1 ∧ 1 ≤ r.2.2 ∧ r.2.2 ≤ 100) (h2 : (r.1, r.2.1) ∉ R.map fun r => (r.1, r.2.1)) : RoadsOk n (R ++ [r]) := by
  refine ⟨fun s hs => ?_, ?_⟩
  · rcases List.mem_append.mp hs with hs | hs
    · exact h.rd s hs
    · rw [List.mem_singleton.mp hs]; exact h1
  · rw [List.map_append]
    refine List.nodup_append.mpr ⟨h.nd, by simp, fun a ha b hb e => ?_⟩
    rw [List.map_cons, List.map_nil, List.mem_singleton] at hb
    subst e
    rw [hb] at ha
    exact h2 ha
end K7
/-! ### part 12: orders and picks -/
namespace K7
open PySem L2
def iN (L : List Nat) : List PyData := (L.map fun k : Nat => (k : Int)).map .int
def vN (L : List Nat) : List V := (L.map fun k : Nat => (k : Int)).map V.int
theorem iN_len (L : List Nat) : (iN L).length = L.length := by unfold iN; rw [List.length_map, List.length_map]
theorem iN_get {L : List Nat} {k : Nat} {x : Nat} (h : L[k]? = some x) : (iN L)[k]? = some (.int (x : Int)) := by
  unfold iN
  rw [List.getElem?_map, List.getElem?_map, h] <;> rfl
theorem iN_snoc (L : List Nat) (x : Nat) : iN (L ++ [x]) = iN L ++ [.int (x : Int)] := by
  unfold iN
  rw [List.map_append, List.map_append] <;> rfl
theorem cut_take {α : Type} (xs : List α) (k : Nat) : cutL xs none (some (k : Int)) = xs.take k := by
  unfold cutL
  have e : HT.sIx xs.length xs.length (some (k : Int)) = min k xs.length := HT.sIx_nat _ _ _
  have e2 : HT.sIx xs.length 0 none = 0 := rfl
  rw [e, e2, List.drop_zero, Nat.sub_zero]
  by_cases h : k ≤ xs.length
  · rw [Nat.min_eq_left h]
  · rw [Nat.min_eq_right (by omega), List.take_length, List.take_of_length_le (by omega)]
theorem cut_drop {α : Type} (xs : List α) (k : Nat) : cutL xs (some (k : Int)) none = xs.drop k := by
  unfold cutL
  have e : HT.sIx xs.length 0 (some (k : Int)) = min k xs.length := HT.sIx_nat _ _ _
  have e2 : HT.sIx xs.length xs.length none = xs.length := rfl
  rw [e, e2]
  by_cases h : k ≤ xs.length
  · rw [Nat.min_eq_left h, List.take_of_length_le (by rw [List.length_drop]; omega)]
  · rw [Nat.min_eq_right (by omega), Nat.sub_self, List.take_zero, List.drop_eq_nil_of_le (by omega)]
theorem iN_take (L : List Nat) (k : Nat) : (iN L).take k = iN (L.take k) := by unfold iN; rw [← List.map_take, ← List.map_take]
theorem iN_drop (L : List Nat) (k : Nat) : (iN L).drop k = iN (L.drop k) := by unfold iN; rw [← List.map_drop, ← List.map_drop]
section
variable {K : PySem.W.Frag} {H H' : Hp} {rl sc : Addr} {ns : List Int} {σ : St} {D : Ends} {te ta tb : TE} {tz : TS} {d : PyData}
theorem q_tk {i r : Nat} {m : Int} {E : XK} (hr : σ[r]? = some (some (.ref rl))) (hL : LR K H rl sc ns) (hm : EvD K te σ H (.int m)) (m1 : 1 ≤ m) (m2 : m ≤ 1000) (k : ∀ (v : Int) H', 0 ≤ v → v < m → LR K H' rl sc ns → But rl H H' → tz D (σ.set i (some (.int v))) H') :
    tSeq (tAsg (tCall (spTk K) [] E (tCons (tVar r) (tCons te tNil))) (gName i)) tz D σ H := t_tk (Q := fun x H1 => gName i x σ H1 (tz D)) hr hL hm m1 m2 k
theorem q_gl {Hb : Hp} {l : Addr} {i : Nat} {ds : List PyData} (hi : σ[i]? = some (some (.ref l))) (hg : GL K Hb H l ds) (h : EvD K te σ H d) (t1 : TDs ds = true) (t2 : TD d = true) (hz : ds.length < 10000000) (k : ∀ H', But l H H' → GL K Hb H' l (ds ++ [d]) → tz D σ H') :
    tSeq (tDrop (tBM K "list" rAppend (tVar i) (tCons te tNil))) tz D σ H := by
  obtain ⟨h1, h2, vs, h3, h4⟩ := hg
  have hl := dps_len h4
  refine q_app hi h3 h (by omega) fun v H1 e p => k _ e.but.upd ⟨h1, same_mut (h2.trans e) h1, _, upd_same, ?_⟩
  have kp : TKeep H1 (upd H1 l (.lst (vs ++ [v]))) := TKeep.lst (e _ _ h3)
  exact dps_app (dps_tk kp _ _ t1 (dps_same e _ _ h4)) (.cons (dp_tk kp _ _ t2 p) .nil)
theorem ef_cat {as bs : List Int} (ha : EvM K ta σ H (as.map .int)) (hb : EvM K tb σ H (bs.map .int)) (hl : as.length + bs.length ≤ 10000000) : EvF (tOp rCat ta tb) σ H ((as ++ bs).map V.int) := fun H1 e Q q =>
  ha H1 e _ fun x H2 e2 p2 => hb H2 (e.trans e2) _ fun y H3 e3 p3 => by
    obtain ⟨a, xs, rfl, h1, h2⟩ := p2
    obtain ⟨b, ys, rfl, h3, h4⟩ := p3
    have e1 := dps_ints h2
    have e4 := dps_ints h4
    subst e1
    subst e4
    refine ⟨a, b, _, _, rfl, rfl, e3 _ _ h1, h3, sml (by rw [List.length_map, List.length_map]; exact hl), fun p hp => ?_⟩
    refine q p _ (Same.free (e2.trans e3) hp) ((e2.trans e3).trans (same_new hp)) ?_
    rw [upd_same, List.map_append]
theorem q_asgF {i : Nat} {xs : List V} (h : EvF te σ H xs) (k : ∀ p H1, H p = none → Same H H1 → H1 p = some (.lst xs) → tz D (σ.set i (some (.ref p))) H1) : tSeq (tAsg te (gName i)) tz D σ H := h H (Same.refl _) _ k
theorem s_asgF {i : Nat} {xs : List V} (h : EvF te σ H xs) (k : ∀ p H1, H p = none → Same H H1 → H1 p = some (.lst xs) → D.nx (σ.set i (some (.ref p))) H1) : tAsg te (gName i) D σ H := h H (Same.refl _) _ k
theorem q_parLL {i j : Nat} {ds : List PyData} (h : EvM K te σ H ds) (k : ∀ v p H1, Same H H1 → ML K H1 v ds → H1 p = none → tz D ((σ.set i (some v)).set j (some (.ref p))) (upd H1 p (.lst []))) : tSeq (tPar i j (tCons te (tCons (tLst tNil) tNil))) tz D σ H :=
  h H (Same.refl _) _ fun v H1 e m => ⟨by show 0 ≤ sizeLine; decide, fun p hp => ⟨v, .ref p, rfl, k v p H1 e m hp⟩⟩
theorem dp_vN {p : Addr} {L : List Nat} (h : H p = some (.lst (vN L))) : Dp K H (.ref p) (.list (iN L)) := .lst (SqL.of h) (dps_of_ints _)
end
def spOr (K : PySem.W.Frag) : Sp := fun vs H Q _ => ∃ (rl sc : Addr) (ns : List Int) (m : Nat), vs = [.ref rl, .int (m : Int)] ∧ LR K H rl sc ns ∧ 1 ≤ m ∧ m ≤ 1000 ∧ ∀ v H' (F : List Nat), F.Perm (List.range m) → LR K H' rl sc ns → But rl H H' → ML K H' v (iN F) → Q v H'
def spPk (K : PySem.W.Frag) : Sp := fun vs H Q _ => ∃ (rl sc : Addr) (ns : List Int) (w : V) (ms : List Int), vs = [.ref rl, w] ∧ LR K H rl sc ns ∧ Dp K H w (.list (ms.map .int)) ∧ ms ≠ [] ∧ ms.length ≤ 1000 ∧ ∀ x H', x ∈ ms → LR K H' rl sc ns → But rl H H' → Q (.int x) H'
section
variable {P : Program} {w : World} {K : PySem.W.Frag} {mg : Str → Option Value} {base : Heap}
theorem sc_or : FnScope ["_law_row", "_law_many", "_law_left", "_law_found", "_law_turn", "_law_at"] ["_law_row", "_law_many"] (defScope s_or) := ⟨rfl, rfl, rfl, by decide +kernel, rfl, by decide +kernel, by decide +kernel⟩
theorem c_or (T : TB mg) (CT : Cal P w K mg base 1 "_law_taken" ["_law_row", "_law_many"] (spTk K)) (DD : DefAt K mg "_law_order" ["_law_row", "_law_many"] s_or) : Cal P w K mg base 2 "_law_order" ["_law_row", "_law_many"] (spOr K) := by
  refine DD.cal sc_or (fun vs H Q E h => ?_) (fun fa cdv A outer s H vs Q E hr h => ?_)
  · obtain ⟨_, _, _, _, rfl, _⟩ := h
    rfl
  obtain ⟨rl, sc, ns, m, rfl, hL, m1, m2, q⟩ := h
  refine ⟨_, (pss_cons (ps_par rfl sc_or.nd (i := 2) (j := 3) rfl rfl (by decide) rfl rfl (pa_cons (pe_listRg rfl rfl T.list (prg_1 rfl T.range (pv 1))) (pa_cons (pe_lst pa_nil) pa_nil)) (by rfl))
    (pss_cons (ps_for PassesOwn.never rfl (pi_range1 rfl T.range (pa_cons (pv 1) pa_nil)) (pg_name (i := 4) sc_or.nd rfl (Or.inl rfl))
      (pss_cons (ps_set (i := 5) sc_or.nd rfl (Or.inl rfl) (pe_callC CT (hr.mono (by decide)) rfl (pa_cons (pv 0) (pa_cons (pe_callB (k_len K) rfl T.len (by decide +kernel) (pa_cons (pv 2) pa_nil)) pa_nil))))
    (pss_cons (ps_expr (pe_bm PySem.F.plainAttrs_list PySem.F.slot_list_append PySem.F.type_list_append mt_append (pv 3) (pa_cons (pe_ix (k_ixL K) (pv 2) (pv 5) (fun _ _ => rfl)) pa_nil)))
    (pss_one (ps_set (i := 2) sc_or.nd rfl (Or.inl rfl) (pe_op op_cat (pe_slice (k_slL K) (pv 2) po_none (po_some (pv 5))) (pe_slice (k_slL K) (pv 2) (po_some (pe_op op_add (pv 5) pe_int)) po_none)))))))
    (pss_one (ps_ret (pv 3))))), ?_⟩
  refine q_parLL (K := K) (em_rg (n := m) (ed_vari rfl) (by omega)) fun v2 p H1 e1 h2 hp => ?_
  obtain ⟨p2, xs2, rfl, g1, g2⟩ := h2
  have ex := dps_ints g2
  subst ex
  have hB : Same (hide rl H) H1 := hide_but e1.but
  have hs := hL.sc
  have g1' : upd H1 p (.lst []) p2 = some (.lst (vN (List.range m))) := same_new hp _ _ g1
  have hpp : p2 ≠ p := ne_of_none g1 hp
  have hpr' : p ≠ rl := fun z => by
    have q1 := Same.free e1 hp
    obtain ⟨sc, r, hr⟩ := hL.get
    rw [← z, q1] at hr
    cases hr
  have hrlp : rl ≠ p := Ne.symm hpr'
  refine q_for (K := K) (H0 := hide rl H) (ei_rng1 (n := m) (ea_cons (ed_vari rfl) ea_nil) (by omega)) (hB.trans (same_new hp))
    (fun i σ' H' => Same (hide rl H) H' ∧ LR K H' rl sc ns ∧ ∃ (L F : List Nat) (p2 : Addr), (F ++ L).Perm (List.range m) ∧ F.length = i ∧ H' p2 = some (.lst (vN L)) ∧ p2 ≠ p ∧ GL K (hide rl H) H' p (iN F) ∧ ∃ u4 u5 : Option V, σ' = [some (.ref rl), some (.int (m : Int)), some (.ref p2), some (.ref p), u4, u5])
    (fun H2 e2 => ⟨(hB.trans (same_new hp)).trans e2, (hL.same e1).same ((same_new hp).trans e2), List.range m, [], p2, List.Perm.refl _, rfl, e2 _ _ g1', hpp, (GL.rebase hB (gl_new hp)).same e2, none, none, rfl⟩)
    (fun i σ' H' _ z => z.1) (fun i e x σ' H' H2 he z e2 hx => ?_) fun σ' H' z => ?_
  · obtain ⟨hi, rfl⟩ := rngD_get' he
    obtain ⟨z1, z2, L, F, p2, z3, z4, z5, z6, z7, u4, u5, rfl⟩ := z
    have hLl : F.length + L.length = m := by
      have z := z3.length_eq
      rw [List.length_append, List.length_range] at z
      exact z
    have z5' := e2 _ _ z5
    refine q_tk (K := K) rfl (z2.same e2) (m := (L.length : Int)) (ep_cb (ea_cons (ed_var rfl (dp_vN z5')) ea_nil) (rc_lenL (iN_len L))) (by omega) (by omega) fun v H3 v0 v1 l3 b3 => ?_
    obtain ⟨k, rfl⟩ : ∃ k : Nat, v = (k : Int) := ⟨v.toNat, by omega⟩
    have hk : k < L.length := by omega
    have hkx := List.getElem?_eq_getElem hk
    have hpr : p2 ≠ rl := fun z => by
      obtain ⟨sc, r, hr⟩ := (z2.same e2).get
      rw [z, hr] at z5'
      injection z5' with z5'
      injection z5' with z5'
      exact ints_no_ref z5'.symm
    have z5b := b3 _ _ hpr z5'
    have g3 : GL K (hide rl H) H3 p (iN F) := GL.but hide_none hpr' (z2.same e2) b3 (tds_map fun _ => rfl) (z7.same e2)
    refine q_gl (K := K) (d := .int (L[k] : Int)) rfl g3 (ed_op (ed_var rfl (dp_vN z5b)) (ed_vari rfl) (ro_ixL (atI_nat (iN_get hkx)))) (tds_map fun _ => rfl) rfl (by rw [iN_len]; omega) fun H4 b4 g4 => ?_
    have z5c := b4 _ _ z6 z5b
    have l4 : LR K H4 rl sc ns := l3.mut hs g4.2.1 hrlp b4
    refine s_asgF (ef_cat (K := K) (as := (L.take k).map fun k : Nat => (k : Int)) (bs := (L.drop (k + 1)).map fun k : Nat => (k : Int)) (EvM.is (em_slL (ed_var rfl (dp_vN z5c)) eo_none (eo_some (K := K) (ed_vari rfl))) (by rw [cut_take, iN_take]; rfl))
      (EvM.is (em_slL (ed_var rfl (dp_vN z5c)) (eo_some (K := K) (i := ((k + 1 : Nat) : Int)) (ed_op (ed_vari rfl) ed_int ro_add)) eo_none) (by rw [cut_drop, iN_drop]; rfl)) (by rw [List.length_map, List.length_map, List.length_take, List.length_drop]; omega)) fun p3 H5 hp3 e5 h5 => ?_
    refine ⟨g4.2.1.trans e5, l4.same e5, L.take k ++ L.drop (k + 1), F ++ [L[k]], p3, ?_, by rw [List.length_append, z4] <;> rfl, ?_, ?_, ?_, _, _, rfl⟩
    · have e : L = L.take k ++ L[k] :: L.drop (k + 1) := by
        rw [← List.drop_eq_getElem_cons hk, List.take_append_drop]
      have e3 : (F ++ [L[k]] ++ (L.take k ++ L.drop (k + 1))).Perm (F ++ (L.take k ++ L[k] :: L.drop (k + 1))) := by
        rw [List.append_assoc]
        refine List.Perm.append_left F ?_
        show (L[k] :: (L.take k ++ L.drop (k + 1))).Perm _
        exact List.perm_middle.symm
      rw [← e] at e3
      exact e3.trans z3
    · rw [h5, ← List.map_append]
      rfl
    · intro z
      obtain ⟨gq1, gq2, vs, gq3, gq4⟩ := g4
      rw [z, gq3] at hp3
      cases hp3
    · rw [iN_snoc]
      exact g4.same e5
  · obtain ⟨z1, z2, L, F, p2, z3, z4, z5, z6, z7, u4, u5, rfl⟩ := z
    rw [rngD_len] at z4
    have hLl : F.length + L.length = m := by
      have z := z3.length_eq
      rw [List.length_append, List.length_range] at z
      exact z
    have hL0 : L = [] := List.eq_nil_of_length_eq_zero (by omega)
    subst hL0
    rw [List.append_nil] at z3
    exact s_ret (em_var (K := K) rfl z7.ml) fun v H3 e3 pp => q v H3 F z3 (z2.same e3) (but_hide (z1.trans e3)) pp
theorem sc_pk : FnScope ["_law_row", "_law_things"] ["_law_row", "_law_things"] (defScope s_pk) := ⟨rfl, rfl, rfl, by decide +kernel, rfl, by decide +kernel, by decide +kernel⟩
theorem c_pk (T : TB mg) (CT : Cal P w K mg base 1 "_law_taken" ["_law_row", "_law_many"] (spTk K)) (DD : DefAt K mg "_law_pick" ["_law_row", "_law_things"] s_pk) : Cal P w K mg base 2 "_law_pick" ["_law_row", "_law_things"] (spPk K) := by
  refine DD.cal sc_pk (fun vs H Q E h => ?_) (fun fa cdv A outer s H vs Q E hr h => ?_)
  · obtain ⟨_, _, _, _, _, rfl, _⟩ := h
    rfl
  obtain ⟨rl, sc, ns, u, ms, rfl, hL, hu, hne, hl, q⟩ := h
  refine ⟨_, (pss_one (ps_ret (pe_ix (k_ixL K) (pv 1) (pe_callC CT (hr.mono (by decide)) rfl (pa_cons (pv 0) (pa_cons (pe_callB (k_len K) rfl T.len (by decide +kernel) (pa_cons (pv 1) pa_nil)) pa_nil))) (fun _ _ => rfl)))), ?_⟩
  have hlm : (ms.map PyData.int).length = ms.length := List.length_map _
  have hpos : 0 < ms.length := List.length_pos_iff.mpr hne
  refine ⟨u, rfl, t_tk (K := K) rfl hL (m := (ms.length : Int)) (ep_cb (ea_cons (ed_var rfl hu) ea_nil) (rc_lenL hlm)) (by omega) (by omega) fun v H1 v0 v1 l1 b1 => ?_⟩
  have hu1 := dpl_but hL b1 hu
  obtain ⟨a, xs, rfl, hs, hall⟩ := dp_lst hu1
  rw [dps_ints hall] at hs
  obtain ⟨k, rfl⟩ : ∃ k : Nat, v = (k : Int) := ⟨v.toNat, by omega⟩
  have hk : k < ms.length := by omega
  exact ⟨a, _, k, .int ms[k], rfl, rfl, hs, atI_nat (by rw [List.getElem?_map, List.getElem?_eq_getElem hk] <;> rfl), q _ H1 (List.getElem_mem hk) l1 b1⟩
end
end K7
/-! ### part 13: the drawn web -/
namespace K7
open PySem L2
def spOw (K : PySem.W.Frag) : Sp := fun vs H Q _ => ∃ (rl sc : Addr) (ns : List Int), vs = [.ref rl, .int 6] ∧ LR K H rl sc ns ∧ ∀ v H' (n : Nat) (ws : List Int) (R : List Road) (d : Nat → Nat → Int), Web n ws R d → LR K H' rl sc ns → But rl H H' → Dp K H' v (webD ws R) → Q v H'
/-- an expression that draws: what it gives from this heap on -/
def EvE (te : TE) (σ : St) (H : Hp) (P : V → Hp → Prop) : Prop := ∀ Q : VK, (∀ v H2, P v H2 → Q v H2) → te σ H Q
section
variable {K : PySem.W.Frag} {H H' : Hp} {rl sc : Addr} {ns : List Int} {σ : St} {D : Ends} {te ta tb : TE} {tz tw : TS} {d : PyData} {g : TG}
/-- the road that a draw closes -/
theorem ee_road {x y : Nat} {b : Int} {E : XK} (h0 : σ[0]? = some (some (.ref rl))) (h4 : σ[4]? = some (some (.int b))) (hL : LR K H rl sc ns) (b1 : 1 ≤ b) (b2 : b ≤ 1000) (hx : EvD K ta σ H (.int (x : Int))) (hy : EvD K tb σ H (.int (y : Int))) :
    EvE (tTup (tCons ta (tCons tb (tCons (tOp (rI0 fun i j => .int (i + j)) (tC (.int 1)) (tCall (spTk K) [] E (tCons (tVar 0) (tCons (tVar 4) tNil)))) tNil)))) σ H fun v H' => ∃ l : Int, 1 ≤ l ∧ l ≤ b ∧ LR K H' rl sc ns ∧ But rl H H' ∧ Dp K H' v (roadD (x, y, l)) := fun Q q =>
  hx H (Same.refl _) _ fun v1 H1 e1 p1 => hy H1 e1 _ fun v2 H2 e2 p2 => t_tk (K := K) h0 (hL.same (e1.trans e2)) (ed_vari h4) b1 b2 fun v H3 v0 vb l3 b3 => by
    refine ⟨1, v, rfl, rfl, by show 3 ≤ sizeLine; decide, fun p hp => q _ _ ⟨1 + v, by omega, by omega, l3.same (same_new hp), ((e1.trans e2).but.trans b3).trans (same_new hp).but, ?_⟩⟩
    rw [dp_int p1, dp_int p2]
    exact .tup (SqT.of upd_same) (.cons (.int _) (.cons (.int _) (.cons (.int _) .nil)))
/-- xs.append of such a one -/
theorem s_glE {Hb : Hp} {l : Addr} {i : Nat} {ds : List PyData} {P : V → Hp → Prop} (hi : σ[i]? = some (some (.ref l))) (hg : GL K Hb H l ds) (h : EvE te σ H P) (hz : ds.length < 10000000) (t1 : TDs ds = true)
    (k : ∀ v H2, P v H2 → GL K Hb H2 l ds ∧ ∃ d, Dp K H2 v d ∧ TD d = true ∧ ∀ H', But l H2 H' → GL K Hb H' l (ds ++ [d]) → D.nx σ H') :
    tDrop (tBM K "list" rAppend (tVar i) (tCons te tNil)) D σ H := by
  obtain ⟨h1, h2, vs, h3, h4⟩ := hg
  refine ⟨_, hi, Or.inl ⟨rfl, vs, SqL.of h3⟩, h _ fun v H2 p => ?_⟩
  obtain ⟨⟨g1, g2, ws, g3, g4⟩, d, hd, t2, kk⟩ := k v H2 p
  have hl := dps_len g4
  refine ⟨l, ws, v, rfl, rfl, g3, smlt (by omega), kk _ (But.refl l H2).upd ⟨g1, same_mut g2 g1, _, upd_same, ?_⟩⟩
  have kp : TKeep H2 (upd H2 l (.lst (ws ++ [v]))) := TKeep.lst g3
  exact dps_app (dps_tk kp _ _ t1 g4) (.cons (dp_tk kp _ _ t2 hd) .nil)
theorem q_tkAdd {i r : Nat} {c m : Int} {E : XK} (hr : σ[r]? = some (some (.ref rl))) (hL : LR K H rl sc ns) (hm : EvD K te σ H (.int m)) (m1 : 1 ≤ m) (m2 : m ≤ 1000) (k : ∀ (v : Int) H', 0 ≤ v → v < m → LR K H' rl sc ns → But rl H H' → tz D (σ.set i (some (.int (c + v)))) H') :
    tSeq (tAsg (tOp (rI0 fun i j => .int (i + j)) (tC (.int c)) (tCall (spTk K) [] E (tCons (tVar r) (tCons te tNil)))) (gName i)) tz D σ H :=
  t_tk (Q := fun x H1 => rI0 (fun i j => .int (i + j)) (.int c) x H1 fun y H2 => gName i y σ H2 (tz D)) hr hL hm m1 m2 fun v H' a b l e => ⟨c, v, rfl, rfl, k v H' a b l e⟩
theorem q_bmod {a n : Int} {E : XK} (h0 : σ[0]? = some (some (.ref rl))) (h8 : σ[8]? = some (some (.int a))) (h2 : σ[2]? = some (some (.int n))) (hL : LR K H rl sc ns) (n2 : 2 ≤ n) (n6 : n ≤ 1000)
    (k : ∀ (v : Int) H', 0 ≤ v → v < n - 1 → LR K H' rl sc ns → But rl H H' → tz D (σ.set 9 (some (.int ((a + 1 + v) % n)))) H') :
    tSeq (tAsg (tOp (rI (fun x j => 0 < j) fun i j => .int (i % j)) (tCB rIntK (tCons (tOp (rI0 fun i j => .int (i + j)) (tOp (rI0 fun i j => .int (i + j)) (tVar 8) (tC (.int 1))) (tCall (spTk K) [] E (tCons (tVar 0) (tCons (tOp (rI0 fun i j => .int (i - j)) (tVar 2) (tC (.int 1))) tNil)))) tNil)) (tVar 2)) (gName 9)) tz D σ H :=
  ⟨_, h8, a, 1, rfl, rfl, t_tk (K := K) h0 hL (m := n - 1) (ed_op (ed_vari h2) ed_int ro_sub) (by omega) (by omega) fun v H' a1 b1 l e => ⟨_, _, rfl, rfl, Or.inl ⟨_, rfl, _, h2, _, _, rfl, rfl, (by show 0 < n; omega), k v H' a1 b1 l e⟩⟩⟩
/-- for _ in range(draw) -/
theorem q_forTk {r : Nat} {m : Int} {E : XK} (hr : σ[r]? = some (some (.ref rl))) (hL : LR K H rl sc ns) (hm : EvD K te σ H (.int m)) (m1 : 1 ≤ m) (m2 : m ≤ 1000) (Pv : Nat → St → Hp → Prop)
    (h0 : ∀ H1, LR K H1 rl sc ns → But rl H H1 → Pv 0 σ H1) (hs : ∀ (i : Nat) σ' H', (i : Int) + 1 < m → Pv i σ' H' → g (.int (i : Int)) σ' H' fun σ2 H3 => tw { D with nx := Pv (i + 1), ct := Pv (i + 1), bk := tz D } σ2 H3)
    (hd : ∀ (n : Nat) σ' H', (n : Int) < m → Pv n σ' H' → tz D σ' H') :
    tSeq (tFor (iRng1 (tCons (tCall (spTk K) [] E (tCons (tVar r) (tCons te tNil))) tNil)) g tw) tz D σ H :=
  t_tk (K := K) hr hL hm m1 m2 fun v H1 v0 v1 l1 b1 => by
    obtain ⟨n, rfl⟩ : ∃ k : Nat, v = (k : Int) := ⟨v.toNat, by omega⟩
    refine ⟨n, rfl, by omega, by omega, ?_⟩
    have en : (n : Int).toNat = n := by omega
    rw [en]
    refine for_it (D := { D with nx := tz D }) walk_range Pv (h0 H1 l1 b1) (fun _ _ _ _ _ => trivial) (fun i x σ' Ha Hb hi p y => ?_) fun σ' H' p => hd n σ' H' v1 p
    obtain ⟨rfl, rfl⟩ := y
    have z := hs i σ' Hb (by omega) p
    rw [show (i : Int) = (0 : Int) + (i : Int) from (Int.zero_add _).symm] at z
    exact z
/-- the second row of the draw -/
theorem q_ow2 {m : Nat} {E1 E2 : XK} (h0 : σ[0]? = some (some (.ref rl))) (h2 : σ[2]? = some (some (.int (m : Int)))) (hL : LR K H rl sc ns) (m1 : 1 ≤ m) (m2 : m ≤ 1000)
    (k : ∀ (a p : Addr) (F : List Nat) (b : Int) H', F.Perm (List.range m) → 1 ≤ b → b ≤ 100 → LR K H' rl sc ns → Same (hide rl H) H' → H' a = some (.lst (vN F)) → a ≠ p → GL K (hide rl H) H' p [] → p ≠ rl → tz D (((σ.set 3 (some (.ref a))).set 4 (some (.int b))).set 5 (some (.ref p))) H') :
    tSeq (tAsg (tTup (tCons (tCall (spOr K) [] E1 (tCons (tVar 0) (tCons (tVar 2) tNil))) (tCons (tCall (spPk K) [] E2 (tCons (tVar 0) (tCons (tLst (tCons (tC (.int 2)) (tCons (tC (.int 9)) (tCons (tC (.int 100)) tNil)))) tNil))) (tCons (tLst tNil) tNil)))) (gTup K 3 (gCons (gName 3) (gCons (gName 4) (gCons (gName 5) gNil))))) tz D σ H := by
  refine ⟨_, h0, _, h2, rl, sc, ns, m, rfl, hL, m1, m2, fun v H1 F hF l1 b1 ml => ?_⟩
  obtain ⟨a, xs, rfl, ha, hall⟩ := ml
  have ex := dps_ints hall
  subst ex
  refine ⟨_, h0, by show 3 ≤ sizeLine; decide, fun q hq => ?_⟩
  refine ⟨rl, sc, ns, .ref q, [2, 9, 100], rfl, l1.same (same_new hq), .lst (SqL.of upd_same) (dps_of_ints [2, 9, 100]), by simp, by simp, fun b H3 hb l3 b3 => ?_⟩
  have hb1 : 1 ≤ b ∧ b ≤ 100 := by
    simp only [or_false, List.mem_cons, List.not_mem_nil] at hb
    omega
  have har : a ≠ rl := fun z => by
    obtain ⟨sc, r, hr⟩ := l1.get
    rw [z, hr] at ha
    injection ha with ha
    injection ha with ha
    exact ints_no_ref ha.symm
  have ha3 : H3 a = some (.lst (vN F)) := b3 _ _ har (same_new hq _ _ ha)
  refine ⟨by show 0 ≤ sizeLine; decide, fun p hp => ?_⟩
  refine ⟨by show 3 ≤ sizeLine; decide, fun t ht => ?_⟩
  have B3 : But rl H H3 := (b1.trans (same_new hq).but).trans b3
  have hB : Same (hide rl H) H3 := hide_but B3
  have hap : a ≠ p := ne_of_none ha3 hp
  have hpr : p ≠ rl := fun z => by
    obtain ⟨sc, r, hr⟩ := l3.get
    rw [← z, hp] at hr
    cases hr
  have e5 : Same H3 (upd (upd H3 p (.lst [])) t (.tup [.ref a, .int b, .ref p])) := (same_new hp).trans (same_new ht)
  exact ⟨t, _, rfl, SqT.of upd_same, rfl, _, _, rfl, _, _, rfl, _, _, rfl, rfl, k a p F b _ hF hb1.1 hb1.2 (l3.same e5) (hB.trans e5) (e5 _ _ ha3) hap ((GL.rebase hB (gl_new hp)).same (same_new ht)) hpr⟩
/-- the weights' draw -/
theorem q_wts {n : Nat} {E1 E2 : XK} {x1 x3 x4 x5 x6 x7 x8 x9 x10 x11 x12 : Option V} (hL : LR K H rl sc ns) (n6 : n ≤ 1000)
    (k : ∀ (q : Addr) (ws : List Int) H', ws.length = n → (∀ x ∈ ws, 0 ≤ x ∧ x ≤ 100) → LR K H' rl sc ns → But rl H H' → H' q = some (.lst (ws.map V.int)) → H q = none → q ≠ rl → tz D [some (.ref rl), x1, some (.int (n : Int)), x3, x4, x5, x6, x7, x8, x9, some (.ref q), x11, x12] H') :
    tSeq (tAsg (tLc (iRng1 (tCons (tVar 2) tNil)) (gName 12) tYes (tCall (spTk K) [] E1 (tCons (tVar 0) (tCons (tCall (spPk K) [] E2 (tCons (tVar 0) (tCons (tLst (tCons (tC (.int 2)) (tCons (tC (.int 6)) (tCons (tC (.int 101)) tNil)))) tNil))) tNil))) [12]) (gName 10)) tz D [some (.ref rl), x1, some (.int (n : Int)), x3, x4, x5, x6, x7, x8, x9, x10, x11, x12] H := by
  refine ⟨_, rfl, n, rfl, by omega, by omega, ?_⟩
  have en : (n : Int).toNat = n := by omega
  rw [en]
  intro q hq
  have hs := hL.sc
  have hqr : q ≠ rl := fun z => by
    obtain ⟨sc, r, hr⟩ := hL.get
    rw [← z, hq] at hr
    cases hr
  have hqh : hide rl H q = none := by
    unfold hide
    rw [if_neg hqr]
    exact hq
  refine lc_it walk_range (fun i H' => LR K H' rl sc ns ∧ Same (hide rl H) H' ∧ ∃ ws : List Int, ws.length = i ∧ (∀ x ∈ ws, 0 ≤ x ∧ x ≤ 100) ∧ H' q = some (.lst (ws.map V.int))) ⟨hL.same (same_new hq), (hide_but (But.refl rl H)).trans (same_new hq), [], rfl, fun x hx => by simp at hx, upd_same⟩ (fun _ _ _ _ => trivial) (fun i x Ha Hb hi p y => ?_) fun H' p => ?_
  · obtain ⟨rfl, rfl⟩ := y
    obtain ⟨p1, p2, ws, rfl, p4, p5⟩ := p
    refine ⟨rfl, eb_yes _ (Same.refl _) _ fun Hc ec => iteT ⟨_, rfl, _, rfl, by show 3 ≤ sizeLine; decide, fun o ho => ?_⟩⟩
    replace p1 := p1.same ec
    replace p5 := ec _ _ p5
    replace p2 := p2.trans ec
    refine ⟨rl, sc, ns, .ref o, [2, 6, 101], rfl, p1.same (same_new ho), .lst (SqL.of upd_same) (dps_of_ints [2, 6, 101]), by simp, by simp, fun m H3 hm l3 b3 => ?_⟩
    have hm1 : 1 ≤ m ∧ m ≤ 101 := by
      simp only [or_false, List.mem_cons, List.not_mem_nil] at hm
      omega
    refine ⟨rl, sc, ns, m, rfl, l3, hm1.1, by omega, fun v H4 v0 v1 l4 b4 => ?_⟩
    have hq4 : H4 q = some (.lst (ws.map V.int)) := b4 _ _ hqr (b3 _ _ hqr (same_new ho _ _ p5))
    have e4 : Same (hide rl H) H4 := hide_but ((((but_hide p2).trans (same_new ho).but).trans b3).trans b4)
    refine ⟨_, hq4, smlt (by rw [List.length_map]; omega), l4.mut hs (same_mut e4 hqh) (Ne.symm hqr) (But.refl q H4).upd, same_mut e4 hqh, ws ++ [v], by rw [List.length_append] <;> rfl, fun z hz => ?_, ?_⟩
    · rcases List.mem_append.mp hz with hz | hz
      · exact p4 z hz
      · rw [List.mem_singleton.mp hz]; omega
    · rw [upd_same, List.map_append] <;> rfl
  · obtain ⟨p1, p2, ws, p3, p4, p5⟩ := p
    exact k q ws H' p3 p4 p1 (but_hide p2) p5 hq hqr
theorem q_setV {l : Addr} {j i : Nat} {kx : Int} {xs : List V} {v : Int} (hσ : σ[j]? = some (some (.ref l))) (hR : H l = some (.lst xs)) (h : EvD K te σ H (.int v)) (hi : ixN xs.length kx = some i) (kk : ∀ H', But l H H' → Same H (upd H l (.lst xs)) → H' l = some (.lst (xs.set i (.int v))) → tz D σ H') :
    tSeq (tAsg te (gSub (tVar j) (tC (.int kx)) rSetL)) tz D σ H := h H (Same.refl _) _ fun w H1 e p => by
  rw [dp_int p]
  refine ⟨_, hσ, l, xs, kx, i, rfl, rfl, e _ _ hR, hi, kk _ e.but.upd (fun b o q => ?_) upd_same⟩
  by_cases z : b = l
  · subst z; rw [upd_same, ← hR, q]
  · rw [upd_ne z]; exact q
/-- the end: the roads in a drawn order -/
theorem s_owEnd {Hb : Hp} {E1 : XK} {p qa : Addr} {ws : List Int} {R : List Road} {x1 x2 x3 x4 x6 x7 x8 x9 x11 x12 : Option V} (hL : LR K H rl sc ns) (hg : GL K Hb H p (R.map roadD)) (hpr : p ≠ rl) (hq : H qa = some (.lst (ws.map V.int))) (r0 : 1 ≤ R.length) (r1 : R.length ≤ 1000)
    (k : ∀ v H' (R' : List Road), R'.Perm R → LR K H' rl sc ns → But rl H H' → Dp K H' v (webD ws R') → D.rt v H') :
    tRet (tTup (tCons (tCB (rTupK K) (tCons (tVar 10) tNil)) (tCons (tCB (rTupK K) (tCons (tLc (iList K (tCall (spOr K) [] E1 (tCons (tVar 0) (tCons (tCB (rLenK K) (tCons (tVar 5) tNil)) tNil)))) (gName 12) tYes (tOp (rIxL K) (tVar 5) (tVar 12)) [12]) tNil)) tNil))) D [some (.ref rl), x1, x2, x3, x4, some (.ref p), x6, x7, x8, x9, some (.ref qa), x11, x12] H := by
  refine ⟨_, rfl, qa, _, rfl, Or.inl ⟨SqL.of hq, fun l1 hl1 => ?_⟩⟩
  have hL1 := hL.same (same_new (o := .tup (ws.map V.int)) hl1)
  have hg1 := hg.same (same_new (o := .tup (ws.map V.int)) hl1)
  have hd1 : Dp K (upd H l1 (.tup (ws.map V.int))) (.ref l1) (intsD ws) := .tup (SqT.of upd_same) (dps_of_ints _)
  have b1 : But rl H (upd H l1 (.tup (ws.map V.int))) := (same_new hl1).but
  generalize upd H l1 (.tup (ws.map V.int)) = H1 at hL1 hg1 hd1 b1
  have hg1c := hg1
  obtain ⟨_, _, vs, g3, g4⟩ := hg1c
  have hvl : vs.length = R.length := by rw [dps_len g4, List.length_map]
  refine ⟨_, rfl, _, rfl, p, vs, rfl, Or.inl (SqL.of g3), rl, sc, ns, vs.length, rfl, hL1, by omega, by omega, fun v H2 O hO l2 b2 ml => ?_⟩
  have hg2 : GL K (fun _ => none) H2 p (R.map roadD) := ⟨rfl, (fun _ _ q => nomatch q), vs, b2 _ _ hpr g3, dps_tk (But.tk hL1 b2) _ _ (tds_map fun _ => rfl) g4⟩
  have hOl : O.length = R.length := by rw [hO.length_eq, List.length_range, hvl]
  have hconst : EvD K (tC v) [some (.ref rl), x1, x2, x3, x4, some (.ref p), x6, x7, x8, x9, some (.ref qa), x11, x12] H2 (.list (iN O)) := fun H3 e Q q => q _ H3 (Same.refl _) (dp_same e _ _ ml.dp)
  have key := em_lcN (K := K) (j := 12) (vs := [12]) (t := tYes) (te := tOp (rIxL K) (tVar 5) (tVar 12)) (ei_lst hconst) (fun _ => true) (fun j => roadD (R.getD (O.getD j 0) (0, 0, 0))) (fun _ => rfl) (by rw [iN_len]; omega) (fun _ _ _ => rfl) fun j e z H6 he e6 hz => ⟨eb_yes, fun _ => by
    have hj := (List.getElem?_eq_some_iff.mp he).1
    rw [iN_len] at hj
    rw [iN_get (getD_get hj)] at he
    cases he
    have ho : O.getD j 0 < R.length := by
      have z := hO.mem_iff.mp (List.mem_of_getElem? (getD_get hj))
      rw [List.mem_range] at z
      omega
    generalize O.getD j 0 = m at ho hz ⊢
    refine ed_op (ed_var rfl (hg2.same e6).dp) (ed_var rfl hz) (ro_ixL (atI_nat ?_))
    rw [List.getElem?_map, List.getD_eq_getElem?_getD, List.getElem?_eq_getElem ho] <;> rfl⟩
  refine key H2 (Same.refl _) (fun x H1 => rTupK K [x] H1 fun y H2 => [V.ref l1, y].length ≤ sizeLine ∧ ∀ t, H2 t = none → D.rt (.ref t) (upd H2 t (.tup [.ref l1, y]))) fun v3 H3 e3 m3 => ?_
  obtain ⟨pb, ys, rfl, h3, h4⟩ := m3
  refine ⟨pb, ys, rfl, Or.inl ⟨SqL.of h3, fun l4 hl4 => ⟨by show 2 ≤ sizeLine; decide, fun t ht => ?_⟩⟩⟩
  have eR : givenD (iN O).length (fun _ => true) (fun j => roadD (R.getD (O.getD j 0) (0, 0, 0))) = (O.map fun j => R.getD j (0, 0, 0)).map roadD := by
    rw [givenD_all, iN_len, List.map_map]
    have z := range_mapF O id 0 fun j => roadD (R.getD j (0, 0, 0))
    rw [List.map_id] at z
    exact z
  rw [eR] at h4
  have e5 := (same_new (o := .tup ys) hl4).trans (same_new (o := .tup [.ref l1, .ref l4]) ht)
  refine k _ _ (O.map fun j => R.getD j (0, 0, 0)) ?_ (l2.same (e3.trans e5)) ((b1.trans b2).trans (e3.trans e5).but) (.tup (SqT.of upd_same) (.cons (dp_same (e3.trans e5) _ _ (dp_but hL1 b2 (td_ints ws) hd1)) (.cons (.tup (SqT.of (same_new ht _ _ upd_same)) (dps_same e5 _ _ h4)) .nil)))
  have z := hO.map fun j => R.getD j (0, 0, 0)
  rw [hvl] at z
  have z2 := range_mapF R id (0, 0, 0) fun r => r
  rw [List.map_id, List.map_id'] at z2
  rw [z2] at z
  exact z
end
section
variable {P : Program} {w : World} {K : PySem.W.Frag} {mg : Str → Option Value} {base : Heap}
theorem sc_ow : FnScope ["_law_row", "_law_most", "_law_count", "_law_order_here", "_law_big", "_law_roads", "_law_at", "_law_turn", "_law_a", "_law_b", "_law_weights", "_law_road", "_law_k"] ["_law_row", "_law_most"] (defScope s_ow) := ⟨rfl, rfl, rfl, by decide +kernel, rfl, by decide +kernel, by decide +kernel⟩
theorem at_prev {n : Nat} {F : List Nat} (hl : F.length = n) {k : Nat} (hk : k < n) : atI (iN F) ((k : Int) - 1) = some (.int ((F.getD (prevI n k) 0 : Nat) : Int)) := by
  unfold prevI
  by_cases e : k = 0
  · subst e
    rw [if_pos rfl]
    have z : (iN F)[n - 1]? = some (.int ((F.getD (n - 1) 0 : Nat) : Int)) := iN_get (getD_get (by omega))
    rw [← z]
    unfold atI
    have e : ixN (iN F).length ((0 : Nat) - 1 : Int) = some (n - 1) := by
      rw [iN_len, hl]
      unfold ixN
      rw [if_neg (by omega), if_pos (by omega)]
      congr 1
      omega
    show (ixN (iN F).length (((0 : Nat) : Int) - 1)).bind _ = _
    rw [e] <;> rfl
  · rw [if_neg e, show (k : Int) - 1 = ((k - 1 : Nat) : Int) by omega]
    exact atI_nat (iN_get (getD_get (by omega)))
theorem ring_snoc {n : Nat} {F : List Nat} {G : List Road} {l : Int} (h : RingOk n F G) (h1 : 1 ≤ l) (h2 : l ≤ 100) : RingOk n F (G ++ [(F.getD (prevI n G.length) 0, F.getD G.length 0, l)]) := ⟨fun k r hk => by
  by_cases e : k < G.length
  · rw [List.getElem?_append_left e] at hk
    exact h.at_ k r hk
  · rw [List.getElem?_append_right (by omega)] at hk
    have e0 : k - G.length = 0 := by
      have := (List.getElem?_eq_some_iff.mp hk).1
      rw [List.length_singleton] at this
      omega
    rw [e0] at hk
    cases hk
    have e1 : k = G.length := by omega
    subst e1
    exact ⟨rfl, rfl, h1, h2⟩⟩
theorem c_ow (T : TB mg) (CT : Cal P w K mg base 1 "_law_taken" ["_law_row", "_law_many"] (spTk K)) (CO : Cal P w K mg base 2 "_law_order" ["_law_row", "_law_many"] (spOr K)) (CP : Cal P w K mg base 2 "_law_pick" ["_law_row", "_law_things"] (spPk K)) (DD : DefAt K mg "_law_oneway" ["_law_row", "_law_most"] s_ow) : Cal P w K mg base 3 "_law_oneway" ["_law_row", "_law_most"] (spOw K) := by
  refine DD.cal sc_ow (fun vs H Q E h => ?_) (fun fa cdv A outer s H vs Q E hr h => ?_)
  · obtain ⟨_, _, _, rfl, _⟩ := h
    rfl
  obtain ⟨rl, sc, ns, rfl, hL, q⟩ := h
  refine ⟨_, (pss_cons (ps_set (i := 2) sc_ow.nd rfl (Or.inl rfl) (pe_op op_add pe_int (pe_callC CT (hr.mono (by decide)) rfl (pa_cons (pv 0) (pa_cons (pe_op op_sub (pv 1) pe_int) pa_nil)))))
    (pss_cons (ps_asg (pe_tup (pa_cons (pe_callC CO (hr.mono (by decide)) rfl (pa_cons (pv 0) (pa_cons (pv 2) pa_nil))) (pa_cons (pe_callC CP (hr.mono (by decide)) rfl (pa_cons (pv 0) (pa_cons (pe_lst (pa_cons pe_int (pa_cons pe_int (pa_cons pe_int pa_nil)))) pa_nil))) (pa_cons (pe_lst pa_nil) pa_nil)))) (k_gtup K (pgs_cons (pg_name (i := 3) sc_ow.nd rfl (Or.inl rfl)) (pgs_cons (pg_name (i := 4) sc_ow.nd rfl (Or.inl rfl)) (pgs_cons (pg_name (i := 5) sc_ow.nd rfl (Or.inr rfl)) pgs_nil)))))
    (pss_cons (ps_for PassesOwn.never rfl (pi_range1 rfl T.range (pa_cons (pv 2) pa_nil)) (pg_name (i := 6) sc_ow.nd rfl (Or.inl rfl))
      (pss_one (ps_expr (pe_bm PySem.F.plainAttrs_list PySem.F.slot_list_append PySem.F.type_list_append mt_append (pv 5) (pa_cons (pe_tup (pa_cons (pe_ix (k_ixL K) (pv 3) (pe_op op_sub (pv 6) pe_int) (fun _ _ => rfl)) (pa_cons (pe_ix (k_ixL K) (pv 3) (pv 6) (fun _ _ => rfl)) (pa_cons (pe_op op_add pe_int (pe_callC CT (hr.mono (by decide)) rfl (pa_cons (pv 0) (pa_cons (pv 4) pa_nil)))) pa_nil)))) pa_nil)))))
    (pss_cons (ps_for PassesOwn.never rfl (pi_range1 rfl T.range (pa_cons (pe_callC CT (hr.mono (by decide)) rfl (pa_cons (pv 0) (pa_cons pe_int pa_nil))) pa_nil)) (pg_name (i := 7) sc_ow.nd rfl (Or.inl rfl))
      (pss_cons (ps_set (i := 8) sc_ow.nd rfl (Or.inl rfl) (pe_callC CT (hr.mono (by decide)) rfl (pa_cons (pv 0) (pa_cons (pv 2) pa_nil))))
    (pss_cons (ps_set (i := 9) sc_ow.nd rfl (Or.inl rfl) (pe_op op_mod (pe_callTy k_int rfl T.int (by decide +kernel) (pa_cons (pe_op op_add (pe_op op_add (pv 8) pe_int) (pe_callC CT (hr.mono (by decide)) rfl (pa_cons (pv 0) (pa_cons (pe_op op_sub (pv 2) pe_int) pa_nil)))) pa_nil)) (pv 2)))
    (pss_one (ps_if (pt_cmpR (k_notInD K (room65 hr)) (pe_tup (pa_cons (pv 8) (pa_cons (pv 9) pa_nil))) (pe_lc (own := [("_law_road", 11)]) (g := (gName 11)) rfl sc_ow.nd (k_pilist K (pv 5)) (blkOk_by (own := [("_law_road", 11)]) (N := ["_law_row", "_law_most", "_law_count", "_law_order_here", "_law_big", "_law_roads", "_law_at", "_law_turn", "_law_a", "_law_b", "_law_weights", "_law_road", "_law_k"]) (sc := defScope s_ow) (by decide +kernel)) (fun _ _ _ _ _ => (pg_name (i := 11) sc_ow.nd rfl (Or.inl rfl))) (fun _ _ _ _ _ => pts_nil) (fun _ _ _ _ _ => (pe_slice (k_slT K) (pv 11) po_none (po_some pe_int)))) (by rfl)) (pss_one (ps_expr (pe_bm PySem.F.plainAttrs_list PySem.F.slot_list_append PySem.F.type_list_append mt_append (pv 5) (pa_cons (pe_tup (pa_cons (pv 8) (pa_cons (pv 9) (pa_cons (pe_op op_add pe_int (pe_callC CT (hr.mono (by decide)) rfl (pa_cons (pv 0) (pa_cons (pv 4) pa_nil)))) pa_nil)))) pa_nil)))) pss_nil)))))
    (pss_cons (ps_setLc (i := 10) (own := [("_law_k", 12)]) (g := (gName 12)) rfl sc_ow.nd rfl rfl (sw_true rfl rfl rfl (by decide +kernel)) (pi_range1 rfl T.range (pa_cons (pv 2) pa_nil)) (blkOk_by (own := [("_law_k", 12)]) (N := ["_law_row", "_law_most", "_law_count", "_law_order_here", "_law_big", "_law_roads", "_law_at", "_law_turn", "_law_a", "_law_b", "_law_weights", "_law_road", "_law_k"]) (sc := defScope s_ow) (by decide +kernel)) (fun _ _ _ _ _ => (pg_name (i := 12) sc_ow.nd rfl (Or.inl rfl))) (fun _ _ _ _ _ => pts_nil) (fun _ _ _ _ _ => (pe_callC CT (hr.mono (by decide)) rfl (pa_cons (pv 0) (pa_cons (pe_callC CP (hr.mono (by decide)) rfl (pa_cons (pv 0) (pa_cons (pe_lst (pa_cons pe_int (pa_cons pe_int (pa_cons pe_int pa_nil)))) pa_nil))) pa_nil)))))
    (pss_cons (ps_asg (pe_op op_add (pe_ix (k_ixL K) (pv 10) pe_int (fun _ _ => rfl)) (pe_ifExp (pt_cmpR op_eq (pe_callB (k_sum K) rfl T.sum (by decide +kernel) (pa_cons (pv 10) pa_nil)) pe_int (nomark _)) pe_int pe_int)) (pg_sub (pv 10) pe_int set_list))
    (pss_one (ps_ret (pe_tup (pa_cons (pe_callTy (k_tuple K) rfl T.tuple (by decide +kernel) (pa_cons (pv 10) pa_nil)) (pa_cons (pe_callTy (k_tuple K) rfl T.tuple (by decide +kernel) (pa_cons (pe_lc (own := [("_law_k", 12)]) (g := (gName 12)) rfl sc_ow.nd (k_pilist K (pe_callC CO (hr.mono (by decide)) rfl (pa_cons (pv 0) (pa_cons (pe_callB (k_len K) rfl T.len (by decide +kernel) (pa_cons (pv 5) pa_nil)) pa_nil)))) (blkOk_by (own := [("_law_k", 12)]) (N := ["_law_row", "_law_most", "_law_count", "_law_order_here", "_law_big", "_law_roads", "_law_at", "_law_turn", "_law_a", "_law_b", "_law_weights", "_law_road", "_law_k"]) (sc := defScope s_ow) (by decide +kernel)) (fun _ _ _ _ _ => (pg_name (i := 12) sc_ow.nd rfl (Or.inl rfl))) (fun _ _ _ _ _ => pts_nil) (fun _ _ _ _ _ => (pe_ix (k_ixL K) (pv 5) (pv 12) (fun _ _ => rfl)))) pa_nil)) pa_nil))))))))))), ?_⟩
  refine q_tkAdd (K := K) rfl hL (m := 5) (ed_op (ed_vari rfl) ed_int ro_sub) (by omega) (by omega) fun v H1 v0 v1 l1 b1 => ?_
  obtain ⟨n, hn⟩ : ∃ n : Nat, 2 + v = (n : Int) := ⟨(2 + v).toNat, by omega⟩
  rw [hn]
  have n2 : 2 ≤ n := by omega
  have n6 : n ≤ 6 := by omega
  refine q_ow2 (K := K) (m := n) rfl rfl l1 (by omega) (by omega) fun a p F b H2 hF hb1 hb2 l2 e2 ha hap g2 hpr => ?_
  have ol : F.length = n := by rw [hF.length_eq, List.length_range]
  have hs := l1.sc
  have hrp : rl ≠ p := Ne.symm hpr
  have har : a ≠ rl := fun z => by
    obtain ⟨sc, r, hr⟩ := l2.get
    rw [z, hr] at ha
    injection ha with ha
    injection ha with ha
    exact ints_no_ref ha.symm
  refine q_for (K := K) (H0 := hide rl H1) (ei_rng1 (n := n) (ea_cons (ed_vari rfl) ea_nil) (by omega)) e2
    (fun i σ' H' => LR K H' rl sc ns ∧ H' a = some (.lst (vN F)) ∧ ∃ R : List Road, GL K (hide rl H1) H' p (R.map roadD) ∧ R.length = i ∧ RingOk n F R ∧ ∃ u6 : Option V, σ' = [some (.ref rl), some (.int 6), some (.int (n : Int)), some (.ref a), some (.int b), some (.ref p), u6, none, none, none, none, none, none])
    (fun H3 e3 => ⟨l2.same e3, e3 _ _ ha, [], g2.same e3, rfl, ⟨fun k r hk => by simp at hk⟩, none, rfl⟩)
    (fun i σ' H' _ z => by
      obtain ⟨_, _, R, z, _⟩ := z
      exact z.2.1) (fun i e x σ' H' H3 he z e3 hx => ?_) fun σ' H' z => ?_
  · obtain ⟨hi, rfl⟩ := rngD_get' he
    rw [show (0 : Int) + (i : Int) = (i : Int) from Int.zero_add _] at hx
    cases hx
    obtain ⟨z1, z2, R, z3, rfl, z5, u6, rfl⟩ := z
    have z2' := e3 _ _ z2
    have z3' := z3.same e3
    refine s_glE (K := K) rfl z3' (ee_road (K := K) rfl rfl (z1.same e3) hb1 (by omega) (ed_op (ed_var rfl (dp_vN z2')) (ed_op (ed_vari rfl) ed_int ro_sub) (ro_ixL (at_prev ol hi))) (ed_op (ed_var rfl (dp_vN z2')) (ed_vari rfl) (ro_ixL (atI_nat (iN_get (getD_get (by omega))))))) (by rw [List.length_map]; omega) (tds_map fun _ => rfl) fun u H4 pu => ?_
    obtain ⟨l, lo, hi2, l4, b4, hd⟩ := pu
    have g4 := GL.but hide_none hpr (z1.same e3) b4 (tds_map fun _ => rfl) z3'
    refine ⟨g4, _, hd, rfl, fun H5 b5 g5 => ⟨?_, b5 _ _ hap (b4 _ _ har z2'), R ++ [_], ?_, by rw [List.length_append] <;> rfl, ring_snoc z5 lo (by omega), _, rfl⟩⟩
    · exact l4.mut hs g5.2.1 hrp b5
    · rw [List.map_append]
      exact g5
  obtain ⟨z1, z2, G, z3, z4, z5, u6, rfl⟩ := z
  rw [rngD_len] at z4
  have hG0 := ring_roads n2 hF z5 (by omega)
  refine q_forTk (K := K) rfl z1 (m := 8) ed_int (by omega) (by omega)
    (fun i σ' H' => LR K H' rl sc ns ∧ ∃ R : List Road, GL K (hide rl H1) H' p (R.map roadD) ∧ R.length ≤ n + i ∧ RoadsOk n R ∧ (∀ r ∈ G, r ∈ R) ∧ (G.map (·.2.2)).sum ≤ (R.map (·.2.2)).sum ∧ ∃ u7 u8 u9 : Option V, σ' = [some (.ref rl), some (.int 6), some (.int (n : Int)), some (.ref a), some (.int b), some (.ref p), u6, u7, u8, u9, none, none, none])
    (fun H3 l3 b3 => ⟨l3, G, GL.but hide_none hpr z1 b3 (tds_map fun _ => rfl) z3, by omega, hG0, fun r hr => hr, Int.le_refl _, none, none, none, rfl⟩)
    (fun i σ' H3 hi y => ?_) fun t σ' H3 ht y => ?_
  · obtain ⟨y1, R, y2, y3, y4, y5, y6, u7, u8, u9, rfl⟩ := y
    refine q_tk (K := K) rfl y1 (m := (n : Int)) (ed_vari rfl) (by omega) (by omega) fun x H4 x0 x1 l4 b4 => ?_
    have g4 := GL.but hide_none hpr y1 b4 (tds_map fun _ => rfl) y2
    obtain ⟨x, rfl⟩ : ∃ k : Nat, x = (k : Int) := ⟨x.toNat, by omega⟩
    refine q_bmod (K := K) (a := (x : Int)) (n := (n : Int)) rfl rfl rfl l4 (by omega) (by omega) fun s H5 s0 s1 l5 b5 => ?_
    have g5 := GL.but hide_none hpr l4 b5 (tds_map fun _ => rfl) g4
    have ym0 := Int.emod_nonneg ((x : Int) + 1 + s) (show (n : Int) ≠ 0 by omega)
    have ym1 := Int.emod_lt_of_pos ((x : Int) + 1 + s) (show (0 : Int) < n by omega)
    have ymx : ((x : Int) + 1 + s) % n ≠ x := fun e => by
      have h1 : ((x : Int) + 1 + s) % n = if (x : Int) + 1 + s < n then (x : Int) + 1 + s else (x : Int) + 1 + s - n := by
        by_cases h : (x : Int) + 1 + s < n
        · rw [if_pos h, Int.emod_eq_of_lt (by omega) h]
        · rw [if_neg h, ← Int.sub_emod_right, Int.emod_eq_of_lt (by omega) (by omega)]
      rw [h1] at e
      by_cases h : (x : Int) + 1 + s < n
      · rw [if_pos h] at e; omega
      · rw [if_neg h] at e; omega
    generalize ((x : Int) + 1 + s) % n = ym at ym0 ym1 ymx
    obtain ⟨y, rfl⟩ : ∃ k : Nat, ym = (k : Int) := ⟨ym.toNat, by omega⟩
    have hin : (decide ([(x : Int), (y : Int)] ∈ R.map pairI)) = decide ((x, y) ∈ R.map fun r => (r.1, r.2.1)) := by
      refine decide_eq_decide.mpr ⟨fun h => ?_, fun h => ?_⟩
      · obtain ⟨r, hr, e⟩ := List.mem_map.mp h
        refine List.mem_map.mpr ⟨r, hr, ?_⟩
        unfold pairI at e
        have e1 : (r.1 : Int) = x := by injection e
        have e2 : (r.2.1 : Int) = y := by injection e with _ e; injection e
        exact Prod.ext (by show r.1 = x; omega) (by show r.2.1 = y; omega)
      · obtain ⟨r, hr, e⟩ := List.mem_map.mp h
        refine List.mem_map.mpr ⟨r, hr, ?_⟩
        cases e
        rfl
    refine s_if (b := !decide ((x, y) ∈ R.map fun r => (r.1, r.2.1))) (eb_test (K := K) (ed_op (ed_tup (ds := [.int (x : Int), .int (y : Int)]) (ea_cons (ed_vari rfl) (ea_cons (ed_vari rfl) ea_nil)) (by simp)) (EvM.toD (EvM.is (es := (R.map pairI).map intsD) (em_lcN (K := K) (ei_lstV rfl g5.dp).i (fun _ => true) (fun j => intsD (pairI (R.getD j (0, 0, 0)))) (fun _ => rfl) (by rw [List.length_map]; omega) (fun _ _ _ => td_ints _) fun j e z H6 he e6 hz => ⟨eb_yes, fun _ => ?_⟩) ?_)) (ro_notInD (shaped_ints [(x : Int), (y : Int)]) (shaped_tups _) ?_))) (fun hb H6 e6 => ?_) fun hb H6 e6 => ?_
    · obtain ⟨r, hr, rfl⟩ := roads_get he
      have er : R.getD j (0, 0, 0) = r := by rw [List.getD_eq_getElem?_getD, hr] <;> rfl
      rw [er]
      exact ed_slT (ed_var rfl hz) eo_none (eo_some (K := K) ed_int)
    · rw [givenD_all, List.length_map, List.map_map]
      have z := range_mapF R id (0, 0, 0) fun r => intsD (pairI r)
      rw [List.map_id] at z
      exact z
    · rw [← hin]
      exact congrArg (!·) (any_tups [(x : Int), (y : Int)] (R.map pairI))
    · have hnot : (x, y) ∉ R.map fun r => (r.1, r.2.1) := by
        intro h
        rw [decide_eq_true h] at hb
        cases hb
      have g6 := g5.same e6
      refine s_glE (K := K) rfl g6 (ee_road (K := K) rfl rfl (l5.same e6) hb1 (by omega) (ed_vari rfl) (ed_vari rfl)) (by rw [List.length_map]; omega) (tds_map fun _ => rfl) fun u H7 pu => ?_
      obtain ⟨l, lo, hi2, l7, b7, hd⟩ := pu
      have g7 := GL.but hide_none hpr (l5.same e6) b7 (tds_map fun _ => rfl) g6
      refine ⟨g7, _, hd, rfl, fun H8 b8 g8 => ⟨l7.mut hs g8.2.1 hrp b8, R ++ [(x, y, l)], ?_, ?_, roads_snoc y4 ⟨by show x < n; omega, by show y < n; omega, fun z => ymx (by have : x = y := z; omega), lo, by show l ≤ 100; omega⟩ hnot, fun r hr => List.mem_append.mpr (.inl (y5 r hr)), ?_, _, _, _, rfl⟩⟩
      · rw [List.map_append]
        exact g8
      · rw [List.length_append]; rw [List.length_singleton]; omega
      · rw [List.map_append]
        have z := sum_snoc (R.map (·.2.2)) l
        have z2 : ([((x, y, l) : Road)].map (·.2.2)) = [l] := rfl
        rw [z2, z]
        omega
    · exact ⟨l5.same e6, R, g5.same e6, by omega, y4, y5, y6, _, _, _, rfl⟩
  obtain ⟨y1, R, y2, y3, y4, y5, y6, u7, u8, u9, rfl⟩ := y
  have hG : 2 ≤ G.length := by omega
  have hRp : 1 ≤ R.length := by
    cases G with
    | nil => simp at hG
    | cons r G => exact List.length_pos_of_mem (y5 r List.mem_cons_self)
  refine q_wts (K := K) y1 (by omega) fun qa ws H4 wl w0 l4 b4 hq hqn hqr => ?_
  have g4 := GL.but hide_none hpr y1 b4 (tds_map fun _ => rfl) y2
  have hqp : qa ≠ p := fun z => by
    obtain ⟨_, _, vs, g, _⟩ := y2
    rw [← z, hqn] at g
    cases g
  cases ws with
  | nil => simp at wl; omega
  | cons x wr =>
  have s0 : ∀ ys : List Int, (∀ x ∈ ys, 0 ≤ x ∧ x ≤ 100) → 0 ≤ ys.sum := fun ys h => by
    induction ys with
    | nil => exact Int.le_refl _
    | cons y ys ih =>
      rw [List.sum_cons]
      have a := (h y List.mem_cons_self).1
      have b := ih fun x hx => h x (List.mem_cons_of_mem _ hx)
      omega
  have wr0 : ∀ x ∈ wr, 0 ≤ x ∧ x ≤ 100 := fun x hx => w0 x (List.mem_cons_of_mem _ hx)
  have hx := w0 x List.mem_cons_self
  have swr := s0 wr wr0
  have hdq : Dp K H4 (.ref qa) (.list ((x :: wr).map .int)) := .lst (SqL.of hq) (dps_of_ints _)
  refine q_setV (K := K) (l := qa) (i := 0) (v := x + (if (x :: wr).sum = 0 then 1 else 0)) rfl hq (ed_op (ed_op (ed_var rfl hdq) ed_int (ro_ixL (d := .int x) (atI_nat (j := 0) (v := PyData.int x) (by rw [List.map_cons] <;> rfl)))) (ep_if (b := decide ((x :: wr).sum = 0)) (eb_test (K := K) (ed_op (ep_cb (ea_cons (ed_var rfl hdq) ea_nil) rc_sum) ed_int ro_eq)) (fun hb => EvD.is ed_int ?_) fun hb => EvD.is ed_int ?_) ro_add) (by rw [List.length_map, List.length_cons]; unfold ixN; rw [if_pos (by omega), if_pos (by omega)] <;> rfl) fun H5 b5 _ h5 => ?_
  · rw [if_pos (of_decide_eq_true hb)]
  · rw [if_neg (of_decide_eq_false hb)]
  have B5 : Same (hide rl H1) H5 := hide_but (fun b o hb q => b5 _ _ (fun z => by
    obtain ⟨_, y, _⟩ := y2
    have z1 := y b o (by unfold hide; rw [if_neg hb]; exact q)
    rw [z, hqn] at z1
    cases z1) (g4.2.1 _ _ (by unfold hide; rw [if_neg hb]; exact q)))
  have l5 : LR K H5 rl sc ns := l4.mut hs B5 (Ne.symm hqr) b5
  have g5 : GL K (hide rl H1) H5 p (R.map roadD) := by
    obtain ⟨z1, z2, vs, z3, z4⟩ := g4
    refine ⟨z1, B5, vs, b5 _ _ (Ne.symm hqp) z3, dps_tk ⟨fun b xs q => b5 _ _ (ne_of q hq (by intro z; cases z)) q, fun b o u q => b5 _ _ (ne_of q hq (by intro z; cases z)) q⟩ _ _ (tds_map fun _ => rfl) z4⟩
  refine s_owEnd (K := K) (ws := (x + (if (x :: wr).sum = 0 then 1 else 0)) :: wr) l5 g5 hpr h5 hRp (by omega) fun v6 H6 R' hR' l6 b6 d6 => ?_
  rw [List.sum_cons] at d6
  have hw : ∃ d, Web n ((x + (if x + wr.sum = 0 then 1 else 0)) :: wr) R' d := by
    refine make_web n2 n6 (by rw [List.length_cons]; rw [List.length_cons] at wl; exact wl) (fun y hy => ?_) ?_ hF z5 z4 y5 y6 y4 (by omega) hR'
    · rcases List.mem_cons.mp hy with e | hy
      · subst e
        by_cases e : x + wr.sum = 0
        · rw [if_pos e]; omega
        · rw [if_neg e]; omega
      · exact wr0 y hy
    · rw [List.sum_cons]
      by_cases e : x + wr.sum = 0
      · rw [if_pos e]; omega
      · rw [if_neg e]; omega
  obtain ⟨d, W⟩ := hw
  exact q v6 H6 n _ R' d W l6 (fun c o hc h => b6 c o hc ((but_hide B5) c o hc (b1 c o hc h))) d6
end
end K7
/-! ### part 14: the rings' mathematics -/
namespace K7
/-! the order of tuples -/
theorem lex_irr : ∀ x : List Int, HT.lexLt x x = false
  | [] => rfl
  | x :: xs => by rw [HT.lexLt_cons, if_pos rfl]; exact lex_irr xs
theorem lex_trans : ∀ {x y z : List Int}, HT.lexLt x y = true → HT.lexLt y z = true → HT.lexLt x z = true
  | [], [], _, h, _ => by cases h
  | [], _ :: _, [], _, g => by cases g
  | [], _ :: _, _ :: _, _, _ => HT.lexLt_nil_cons _ _
  | _ :: _, [], _, no, _ => nomatch no
  | _ :: _, _ :: _, [], _, g => by cases g
  | x :: xs, y :: ys, z :: zs, h, g => by
    rw [HT.lexLt_cons] at h g ⊢
    by_cases e1 : x = y
    · rw [if_pos e1] at h
      subst e1
      by_cases e2 : x = z
      · rw [if_pos e2] at g ⊢
        exact lex_trans h g
      · rw [if_neg e2] at g ⊢
        exact g
    · rw [if_neg e1] at h
      have h1 := of_decide_eq_true h
      by_cases e2 : y = z
      · subst e2
        rw [if_neg e1]
        exact h
      · rw [if_neg e2] at g
        have g1 := of_decide_eq_true g
        rw [if_neg (by omega)]
        exact (decide_eq_true_iff).mpr (by omega)
theorem lex_tot : ∀ {x y : List Int}, HT.lexLt x y = false → HT.lexLt y x = false → x = y
  | [], [], _, _ => rfl
  | [], _ :: _, no, _ => nomatch no
  | _ :: _, [], _, g => by cases g
  | x :: xs, y :: ys, h, g => by
    rw [HT.lexLt_cons] at h g
    by_cases e : x = y
    · rw [if_pos e] at h
      rw [if_pos e.symm] at g
      rw [e, lex_tot h g]
    · rw [if_neg e] at h
      rw [if_neg (Ne.symm e)] at g
      have h1 := of_decide_eq_false h
      have g1 := of_decide_eq_false g
      omega
theorem lex_list : ∀ x y : List Int, PySem.W.listLt x y = HT.lexLt x y
  | [], [] => rfl
  | [], _ :: _ => rfl
  | _ :: _, [] => rfl
  | x :: xs, y :: ys => by
    rw [HT.lexLt_cons, PySem.W.listLt, lex_list xs ys] <;> rfl
def natI (p : List Nat) : List Int := p.map fun k : Nat => (k : Int)
def pLt (p q : List Nat) : Bool := HT.lexLt (natI p) (natI q)
theorem natsT_lt (p q : List Nat) : PySem.W.DatumOrd.lt (natsT p) (natsT q) = pLt p q := lex_list _ _
theorem natI_inj : ∀ {p q : List Nat}, natI p = natI q → p = q
  | [], [], _ => rfl
  | [], _ :: _, h => by cases h
  | _ :: _, [], h => by cases h
  | x :: p, y :: q, h => by
    have h1 : ((x : Int) :: natI p) = (y : Int) :: natI q := h
    injection h1 with e1 e2
    rw [natI_inj e2, show x = y by omega]
theorem min_fold (l : List (List Nat)) : ∀ p : List Nat, ∃ m, PySem.W.minOf (natsT p) (l.map natsT) = natsT m ∧ m ∈ p :: l ∧ ∀ x ∈ p :: l, pLt x m = false := by
  induction l with
  | nil => exact fun p => ⟨p, rfl, List.mem_cons_self, fun x hx => by rw [List.mem_singleton.mp hx]; exact lex_irr _⟩
  | cons q l ih =>
    intro p
    have e : PySem.W.minOf (natsT p) ((q :: l).map natsT) = PySem.W.minOf (if pLt q p = true then natsT q else natsT p) (l.map natsT) := by
      rw [← natsT_lt] <;> rfl
    rw [e]
    cases hb : pLt q p with
    | true =>
      rw [if_pos rfl]
      obtain ⟨m, h1, h2, h3⟩ := ih q
      refine ⟨m, h1, List.mem_cons_of_mem _ h2, fun x hx => ?_⟩
      rcases (List.mem_cons).mp hx with rfl | hx
      · cases hc : pLt x m with
        | false => rfl
        | true =>
          have z := h3 q List.mem_cons_self
          have y : pLt q m = true := lex_trans hb hc
          rw [y] at z
          cases z
      · exact h3 x hx
    | false =>
      rw [if_neg (by decide)]
      obtain ⟨m, h1, h2, h3⟩ := ih p
      refine ⟨m, h1, ?_, fun x hx => ?_⟩
      · rcases List.mem_cons.mp h2 with rfl | h2
        · exact List.mem_cons_self
        · exact List.mem_cons_of_mem _ (List.mem_cons_of_mem _ h2)
      · rcases List.mem_cons.mp hx with rfl | hx
        · exact h3 _ List.mem_cons_self
        rcases (List.mem_cons).mp hx with rfl | hx
        · cases hc : pLt x m with
          | false => rfl
          | true =>
            have z := h3 p List.mem_cons_self
            by_cases e : x = p
            · rw [e, z] at hc; cases hc
            · have z2 : pLt p x = true := by
                cases hd : pLt p x with
                | true => rfl
                | false => exact absurd (natI_inj (lex_tot hb hd)) e
              have y : pLt p m = true := lex_trans z2 hc
              rw [y] at z
              cases z
        · exact h3 x (List.mem_cons_of_mem _ hx)
theorem best_is {l : List (List Nat)} {m : List Nat} (hm : m ∈ l) (h : ∀ x ∈ l, pLt x m = false) : bestOf (⟨[]⟩ : PySem.W.Tup Int) (l.map natsT) = natsT m := by
  cases l with
  | nil => cases hm
  | cons p l =>
    obtain ⟨k, h1, h2, h3⟩ := min_fold l p
    show PySem.W.minOf (natsT p) (l.map natsT) = natsT m
    rw [h1, natI_inj (lex_tot (h k h2) (h3 m hm))]
/-! the best so far -/
def better (m : Option (List Nat)) (p : List Nat) : Option (List Nat) := if (match m with | none => true | some q => pLt p q) = true then some p else m
def DueOk (S : List (List Nat)) : Option (List Nat) → Prop
  | none => S = []
  | some m => m ∈ S ∧ ∀ x ∈ S, pLt x m = false
theorem due_one {S : List (List Nat)} {m : Option (List Nat)} {p : List Nat} (h : DueOk S m) : DueOk (S ++ [p]) (better m p) := by
  cases m with
  | none =>
    have h' : S = [] := h
    subst h'
    exact ⟨List.mem_cons_self, fun x hx => by rw [List.mem_singleton.mp hx]; exact lex_irr _⟩
  | some q =>
    obtain ⟨h1, h2⟩ := h
    show DueOk _ (if pLt p q = true then some p else some q)
    cases hb : pLt p q with
    | true =>
      rw [if_pos rfl]
      refine ⟨List.mem_append.mpr (.inr List.mem_cons_self), fun x hx => ?_⟩
      rcases (List.mem_append).mp hx with hx | hx
      · cases hc : pLt x p with
        | false => rfl
        | true =>
          have z := h2 x hx
          have y : pLt x q = true := lex_trans hc hb
          rw [y] at z
          cases z
      · rw [List.mem_singleton.mp hx]; exact lex_irr _
    | false =>
      rw [if_neg (by decide)]
      refine ⟨List.mem_append.mpr (.inl h1), fun x hx => ?_⟩
      rcases (List.mem_append).mp hx with hx | hx
      · exact h2 x hx
      · rw [List.mem_singleton.mp hx]; exact hb
theorem due_all : ∀ (l S : List (List Nat)) (m : Option (List Nat)), DueOk S m → DueOk (S ++ l) (l.foldl better m)
  | [], S, m, h => by rw [List.append_nil]; exact h
  | p :: l, S, m, h => by
    have z := due_all l (S ++ [p]) _ (due_one (p := p) h)
    rw [List.append_assoc] at z
    exact z
/-! the walks of the law -/
structure Trip where
  pre : List Nat
  x : Nat
  far : Int
def Trip.nod (t : Trip) : List Nat := t.pre ++ [t.x]
section
variable (n : Nat) (R : List Road) (d : Nat → Nat → Int) (a b : Nat)
def whole : Int := d a b + d b a
def Trip.fin (t : Trip) : Bool := decide (t.far = whole d a b) && (decide (t.x = a) && decide (b ∈ t.nod))
def restOf (ns : List Nat) (y : Nat) : Int := if b ∈ ns then d y a else d y b + d b a
def Trip.can (t : Trip) (r : Road) : Bool := decide (r.1 = t.x) && decide (t.far + r.2.2 + restOf d a b (t.nod ++ [r.2.1]) r.2.1 = whole d a b)
def Trip.go (t : Trip) (r : Road) : List Trip := if t.can d a b r = true then [⟨t.nod, r.2.1, t.far + r.2.2⟩] else []
def Trip.nexts (t : Trip) : List Trip := if t.fin d a b = true then [] else R.flatMap (t.go d a b)
def tripsT : Nat → List Trip
  | 0 => [⟨[], a, 0⟩]
  | k + 1 => (tripsT k).flatMap fun t => t.nexts R d a b
def doneOf (l : List Trip) : List (List Nat) := (l.filter fun t => t.fin d a b).map Trip.nod
def doneT : Nat → List (List Nat)
  | 0 => []
  | k + 1 => doneT k ++ doneOf d a b (tripsT R d a b k)
def dueT : Nat → Option (List Nat)
  | 0 => none
  | k + 1 => (doneOf d a b (tripsT R d a b k)).foldl better (dueT k)
theorem dueT_ok : ∀ k, DueOk (doneT R d a b k) (dueT R d a b k)
  | 0 => rfl
  | k + 1 => due_all _ _ _ (dueT_ok k)
/-- the points after x on a shortest way from x to t -/
inductive SW (t : Nat) : Nat → List Nat → Prop
  | nil : SW t t []
  | cons {x y : Nat} {l : Int} {c : List Nat} : x ≠ t → (x, y, l) ∈ R → l + d y t = d x t → SW t y c → SW t x (y :: c)
def Comp (t : Trip) (c : List Nat) : Prop := if b ∈ t.nod then SW R d a t.x c else ∃ c1 c2, c = c1 ++ c2 ∧ SW R d b t.x c1 ∧ SW R d a b c2
structure TOk (k : Nat) (t : Trip) : Prop where
  lt : t.x < n
  eq : t.far + restOf d a b t.nod t.x = whole d a b
  len : t.nod.length = k + 1
  pot : (if b ∈ t.nod then rk (fun x => d x a) n t.x else rk (fun x => d x b) n t.x + rk (fun x => d x a) n b) + k ≤ 2 * (n - 1)
end
section
variable {n : Nat} {ws : List Int} {R : List Road} {d : Nat → Nat → Int} {a b : Nat}
theorem sw_end {t : Nat} {c : List Nat} (h : SW R d t t c) : c = [] := by
  cases h with
  | nil => rfl
  | cons h1 => exact absurd rfl h1
theorem mem_go {t t' : Trip} : t' ∈ R.flatMap (t.go d a b) ↔ ∃ r ∈ R, r.1 = t.x ∧ t.far + r.2.2 + restOf d a b (t.nod ++ [r.2.1]) r.2.1 = whole d a b ∧ t' = ⟨t.nod, r.2.1, t.far + r.2.2⟩ := by
  rw [List.mem_flatMap]
  refine ⟨fun ⟨r, hr, h⟩ => ⟨r, hr, ?_⟩, fun ⟨r, hr, h1, h2, h3⟩ => ⟨r, hr, ?_⟩⟩
  · unfold Trip.go at h
    by_cases c : t.can d a b r = true
    · rw [if_pos c] at h
      unfold Trip.can at c
      rw [Bool.and_eq_true] at c
      exact ⟨of_decide_eq_true c.1, of_decide_eq_true c.2, List.mem_singleton.mp h⟩
    · rw [if_neg c] at h
      cases h
  · unfold Trip.go
    have c : t.can d a b r = true := by
      unfold Trip.can
      rw [decide_eq_true h1, decide_eq_true h2] <;> rfl
    rw [if_pos c, h3]
    exact List.mem_cons_self
theorem fin_iff {t : Trip} : t.fin d a b = true ↔ t.far = whole d a b ∧ t.x = a ∧ b ∈ t.nod := by
  unfold Trip.fin
  rw [Bool.and_eq_true, Bool.and_eq_true, decide_eq_true_iff, decide_eq_true_iff, decide_eq_true_iff]
theorem mem_nod_snoc {p : List Nat} {y : Nat} : b ∈ p ++ [y] ↔ b ∈ p ∨ b = y := by
  rw [List.mem_append, List.mem_singleton]
theorem comp_fin {k : Nat} {t : Trip} (h : t.fin d a b = true) {c : List Nat} : Comp R d a b t c ↔ c = [] := by
  obtain ⟨h1, h2, h3⟩ := fin_iff.mp h
  unfold Comp
  rw [if_pos h3, h2]
  exact ⟨sw_end, fun e => by rw [e]; exact .nil⟩
theorem comp_next (W : Web n ws R d) (ha : a < n) (hb : b < n) {k : Nat} {t : Trip} (o : TOk n d a b k t) (h : t.fin d a b = false) {c : List Nat} :
    Comp R d a b t c ↔ ∃ t' ∈ R.flatMap (t.go d a b), ∃ c', c = t'.x :: c' ∧ Comp R d a b t' c' := by
  have oe := o.eq
  have hnf : ¬ (t.far = whole d a b ∧ t.x = a ∧ b ∈ t.nod) := fun z => by rw [fin_iff.mpr z] at h; cases h
  by_cases hm : b ∈ t.nod
  · have er : restOf d a b t.nod t.x = d t.x a := if_pos hm
    have hxa : t.x ≠ a := fun e => hnf ⟨by rw [er, e, W.dii ha] at oe; omega, e, hm⟩
    have ec : Comp R d a b t c = SW R d a t.x c := if_pos hm
    rw [ec]
    refine ⟨fun s => ?_, fun ⟨t', ht, c', e1, s⟩ => ?_⟩
    · generalize hx : t.x = x at s hxa
      cases s with
      | nil => exact absurd rfl hxa
      | cons h1 h2 h3 h4 =>
        rename_i y l c'
        have hm' : b ∈ t.nod ++ [y] := List.mem_append.mpr (.inl hm)
        refine ⟨⟨t.nod, y, t.far + l⟩, mem_go.mpr ⟨_, h2, hx.symm, ?_, rfl⟩, c', rfl, ?_⟩
        · show t.far + l + restOf d a b (t.nod ++ [y]) y = _
          have e : restOf d a b (t.nod ++ [y]) y = d y a := if_pos hm'
          rw [er, hx] at oe
          rw [e]; omega
        · have e : Comp R d a b ⟨t.nod, y, t.far + l⟩ c' = SW R d a y c' := if_pos hm'
          rw [e]; exact h4
    · obtain ⟨⟨u, y, l⟩, hr, e2, e3, rfl⟩ := mem_go.mp ht
      have hm' : b ∈ t.nod ++ [y] := List.mem_append.mpr (.inl hm)
      have e : Comp R d a b ⟨t.nod, y, t.far + l⟩ c' = SW R d a y c' := if_pos hm'
      have e4 : restOf d a b (t.nod ++ [y]) y = d y a := if_pos hm'
      have e2' : u = t.x := e2
      subst e2'
      have e3' : t.far + l + restOf d a b (t.nod ++ [y]) y = whole d a b := e3
      rw [e] at s
      rw [e1]
      rw [er] at oe
      rw [e4] at e3'
      have g : l + d y a = d t.x a := by omega
      exact .cons hxa hr g s
  · have er : restOf d a b t.nod t.x = d t.x b + d b a := if_neg hm
    have hxb : t.x ≠ b := fun e => hm (mem_nod_snoc.mpr (.inr e.symm))
    have ec : Comp R d a b t c = ∃ c1 c2, c = c1 ++ c2 ∧ SW R d b t.x c1 ∧ SW R d a b c2 := if_neg hm
    rw [ec]
    rw [er] at oe
    refine ⟨fun ⟨c1, c2, ee, s1, s2⟩ => ?_, fun ⟨t', ht, c', e1, s⟩ => ?_⟩
    · generalize hx : t.x = x at s1 hxb
      cases s1 with
      | nil => exact absurd rfl hxb
      | cons h1 h2 h3 h4 =>
        rename_i y l c'
        rw [hx] at oe
        refine ⟨⟨t.nod, y, t.far + l⟩, mem_go.mpr ⟨_, h2, hx.symm, ?_, rfl⟩, c' ++ c2, ee, ?_⟩
        · show t.far + l + restOf d a b (t.nod ++ [y]) y = _
          unfold restOf
          by_cases hy : b = y
          · rw [if_pos (mem_nod_snoc.mpr (.inr hy))]
            subst hy
            rw [W.dii hb] at h3
            omega
          · rw [if_neg (fun z => (mem_nod_snoc.mp z).elim hm hy)]
            omega
        · show if b ∈ t.nod ++ [y] then SW R d a y (c' ++ c2) else ∃ c1 c3, c' ++ c2 = c1 ++ c3 ∧ SW R d b y c1 ∧ SW R d a b c3
          by_cases hy : b = y
          · rw [if_pos (show b ∈ t.nod ++ [y] from mem_nod_snoc.mpr (.inr hy))]
            subst hy
            rw [sw_end h4]
            exact s2
          · rw [if_neg (show ¬ b ∈ t.nod ++ [y] from fun z => (mem_nod_snoc.mp z).elim hm hy)]
            exact ⟨c', c2, rfl, h4, s2⟩
    · obtain ⟨⟨u, y, l⟩, hr, e2, e3, rfl⟩ := mem_go.mp ht
      have e2' : u = t.x := e2
      subst e2'
      have e3' : t.far + l + restOf d a b (t.nod ++ [y]) y = whole d a b := e3
      unfold restOf at e3'
      have s' : if b ∈ t.nod ++ [y] then SW R d a y c' else ∃ c1 c2, c' = c1 ++ c2 ∧ SW R d b y c1 ∧ SW R d a b c2 := s
      by_cases hy : b = y
      · rw [if_pos (mem_nod_snoc.mpr (.inr hy))] at e3' s'
        subst hy
        refine ⟨[b], c', e1, .cons hxb hr ?_ .nil, s'⟩
        rw [W.dii hb]
        omega
      · have hm' : ¬ b ∈ t.nod ++ [y] := fun z => (mem_nod_snoc.mp z).elim hm hy
        rw [if_neg hm'] at e3' s'
        obtain ⟨c1, c2, q1, q2, q3⟩ := s'
        refine ⟨y :: c1, c2, by rw [e1, q1] <;> rfl, .cons hxb hr (by omega) q2, q3⟩
theorem tok_next (W : Web n ws R d) (ha : a < n) (hb : b < n) {k : Nat} {t t' : Trip} (o : TOk n d a b k t) (h : t' ∈ R.flatMap (t.go d a b)) : TOk n d a b (k + 1) t' := by
  obtain ⟨⟨u, y, l⟩, hr, e2, e3, rfl⟩ := mem_go.mp h
  have e2' : u = t.x := e2
  subst e2'
  have e3' : t.far + l + restOf d a b (t.nod ++ [y]) y = whole d a b := e3
  have g := W.rd _ hr
  have hy : y < n := g.2.1
  have hl : 1 ≤ l := g.2.2.2.1
  have oe := o.eq
  have op := o.pot
  refine ⟨hy, e3', ?_, ?_⟩
  · show (t.nod ++ [y]).length = _
    rw [List.length_append, o.len] <;> rfl
  · show (if b ∈ t.nod ++ [y] then rk (fun x => d x a) n y else rk (fun x => d x b) n y + rk (fun x => d x a) n b) + (k + 1) ≤ _
    unfold restOf at oe e3'
    by_cases hm : b ∈ t.nod
    · have hm' : b ∈ t.nod ++ [y] := List.mem_append.mpr (.inl hm)
      rw [if_pos hm] at oe op
      rw [if_pos hm'] at e3' ⊢
      have z := rk_lt (f := fun x => d x a) (n := n) (u := y) (v := t.x) hy (by omega)
      omega
    · rw [if_neg hm] at oe op
      by_cases e : b = y
      · have hm' : b ∈ t.nod ++ [y] := mem_nod_snoc.mpr (.inr e)
        rw [if_pos hm'] at e3' ⊢
        subst e
        have z := rk_lt (f := fun x => d x b) (n := n) (u := b) (v := t.x) hy (by
          show d b b < d t.x b
          rw [W.dii hb]
          omega)
        omega
      · have hm' : ¬ b ∈ t.nod ++ [y] := fun z => (mem_nod_snoc.mp z).elim hm e
        rw [if_neg hm'] at e3' ⊢
        have z := rk_lt (f := fun x => d x b) (n := n) (u := y) (v := t.x) hy (by show d y b < d t.x b; omega)
        omega
theorem trips_ok (W : Web n ws R d) (ha : a < n) (hb : b < n) : ∀ k, ∀ t ∈ tripsT R d a b k, TOk n d a b k t
  | 0, t, h => by
    rw [List.mem_singleton.mp h]
    refine ⟨ha, ?_, rfl, ?_⟩
    · show 0 + restOf d a b [a] a = _
      unfold restOf whole
      by_cases e : b = a
      · rw [if_pos (by rw [e]; exact List.mem_cons_self), e, W.dii ha]
      · rw [if_neg (by rw [List.mem_singleton]; exact e), Int.zero_add]
    · have z1 := rk_lt_n (f := fun x => d x a) (n := n) ha
      have z2 := rk_lt_n (f := fun x => d x b) (n := n) ha
      have z3 := rk_lt_n (f := fun x => d x a) (n := n) hb
      show (if b ∈ [a] then rk (fun x => d x a) n a else rk (fun x => d x b) n a + rk (fun x => d x a) n b) + 0 ≤ _
      by_cases e : b ∈ [a]
      · rw [if_pos e]; omega
      · rw [if_neg e]; omega
  | k + 1, t, h => by
    obtain ⟨s, hs, h2⟩ := List.mem_flatMap.mp (show t ∈ (tripsT R d a b k).flatMap fun t => t.nexts R d a b from h)
    unfold Trip.nexts at h2
    by_cases c : s.fin d a b = true
    · rw [if_pos c] at h2; cases h2
    · rw [if_neg c] at h2
      exact tok_next W ha hb (trips_ok W ha hb k s hs) h2
theorem trips_none (W : Web n ws R d) (ha : a < n) (hb : b < n) {k : Nat} (hk : 2 * (n - 1) < k) : tripsT R d a b k = [] := by
  cases e : tripsT R d a b k with
  | nil => rfl
  | cons t l =>
    have z := (trips_ok W ha hb k t (by rw [e]; exact List.mem_cons_self)).pot
    omega
theorem nexts_len (W : Web n ws R d) {k : Nat} {t : Trip} (o : TOk n d a b k t) : (t.nexts R d a b).length ≤ 5 := by
  unfold Trip.nexts
  by_cases c : t.fin d a b = true
  · rw [if_pos c]; exact Nat.zero_le _
  · rw [if_neg c]
    have z := flat_len (a := t.x) (B := 1) (R := R) (F := t.go d a b) fun r _ => by
      unfold Trip.go
      by_cases c : t.can d a b r = true
      · rw [if_pos c]
        unfold Trip.can at c
        rw [Bool.and_eq_true] at c
        rw [if_pos (of_decide_eq_true c.1)]
        exact Nat.le_refl _
      · rw [if_neg c]; exact Nat.zero_le _
    have y := outdeg W o.lt
    omega
theorem trips_pow (W : Web n ws R d) (ha : a < n) (hb : b < n) : ∀ k, (tripsT R d a b k).length ≤ 5 ^ k
  | 0 => Nat.le_refl _
  | k + 1 => by
    have z := flat_bound (B := 5) (l := tripsT R d a b k) (F := fun t => t.nexts R d a b) fun t ht => nexts_len W (trips_ok W ha hb k t ht)
    have i := trips_pow W ha hb k
    show ((tripsT R d a b k).flatMap fun t => t.nexts R d a b).length ≤ _
    rw [Nat.pow_succ]
    have := Nat.mul_le_mul_right 5 i
    omega
theorem trips_len (W : Web n ws R d) (ha : a < n) (hb : b < n) (k : Nat) : (tripsT R d a b k).length ≤ 9765625 := by
  by_cases h : k ≤ 10
  · have z := trips_pow W ha hb k
    have y := Nat.pow_le_pow_right (n := 5) (by decide) h
    have e : (5 : Nat) ^ 10 = 9765625 := by decide
    omega
  · have n6 := W.n6
    rw [trips_none W ha hb (by omega)]
    exact Nat.zero_le _
def Ring0 (R : List Road) (d : Nat → Nat → Int) (a b : Nat) (p : List Nat) : Prop := ∃ c, p = a :: c ∧ Comp R d a b ⟨[], a, 0⟩ c
theorem ring_inv (W : Web n ws R d) (ha : a < n) (hb : b < n) : ∀ (k : Nat) (p : List Nat), Ring0 R d a b p ↔ p ∈ doneT R d a b k ∨ ∃ t ∈ tripsT R d a b k, ∃ c, p = t.nod ++ c ∧ Comp R d a b t c
  | 0, p => by
    refine ⟨fun ⟨c, h1, h2⟩ => .inr ⟨_, List.mem_cons_self, c, h1, h2⟩, fun h => ?_⟩
    rcases h with h | ⟨t, ht, c, h1, h2⟩
    · cases h
    · rw [List.mem_singleton.mp ht] at h1 h2
      exact ⟨c, h1, h2⟩
  | k + 1, p => by
    rw [ring_inv W ha hb k p]
    have key : (∃ t ∈ tripsT R d a b k, ∃ c, p = t.nod ++ c ∧ Comp R d a b t c) ↔ p ∈ doneOf d a b (tripsT R d a b k) ∨ ∃ t ∈ tripsT R d a b (k + 1), ∃ c, p = t.nod ++ c ∧ Comp R d a b t c := by
      refine ⟨fun ⟨t, ht, c, h1, h2⟩ => ?_, fun h => ?_⟩
      · cases hf : t.fin d a b with
        | true =>
          rw [(comp_fin (k := k) hf).mp h2, List.append_nil] at h1
          exact .inl (List.mem_map.mpr ⟨t, List.mem_filter.mpr ⟨ht, hf⟩, h1.symm⟩)
        | false =>
          obtain ⟨t', ht', c', e1, e2⟩ := (comp_next W ha hb (trips_ok W ha hb k t ht) hf).mp h2
          refine .inr ⟨t', List.mem_flatMap.mpr ⟨t, ht, ?_⟩, c', ?_, e2⟩
          · unfold Trip.nexts
            rw [if_neg (by rw [hf]; decide)]
            exact ht'
          · obtain ⟨r, _, _, _, rfl⟩ := mem_go.mp ht'
            rw [h1, e1]
            show t.nod ++ (r.2.1 :: c') = (t.nod ++ [r.2.1]) ++ c'
            rw [List.append_assoc] <;> rfl
      · rcases h with h | ⟨t', ht', c', e1, e2⟩
        · obtain ⟨t, ht, rfl⟩ := List.mem_map.mp h
          obtain ⟨h1, h2⟩ := List.mem_filter.mp ht
          exact ⟨t, h1, [], (List.append_nil _).symm, (comp_fin (k := k) h2).mpr rfl⟩
        · obtain ⟨t, ht, h2⟩ := List.mem_flatMap.mp (show t' ∈ (tripsT R d a b k).flatMap fun t => t.nexts R d a b from ht')
          unfold Trip.nexts at h2
          cases hf : t.fin d a b with
          | true => rw [if_pos hf] at h2; cases h2
          | false =>
            rw [if_neg (by rw [hf]; decide)] at h2
            refine ⟨t, ht, t'.x :: c', ?_, (comp_next W ha hb (trips_ok W ha hb k t ht) hf).mpr ⟨t', h2, c', rfl, e2⟩⟩
            obtain ⟨r, _, _, _, rfl⟩ := mem_go.mp h2
            rw [e1]
            show (t.nod ++ [r.2.1]) ++ c' = t.nod ++ (r.2.1 :: c')
            rw [List.append_assoc] <;> rfl
    rw [key]
    show _ ↔ p ∈ doneT R d a b k ++ doneOf d a b (tripsT R d a b k) ∨ _
    rw [List.mem_append, or_assoc]
/-! .. and the program's rings -/
theorem aw_sw : ∀ (f x : Nat) (p : List Nat), p ∈ aw R d b f x → ∃ c, p = x :: c ∧ SW R d b x c
  | 0, _, _, h => by cases h
  | f + 1, x, p, h => by
    have h' : p ∈ (if x = b then [[x]] else R.flatMap fun r => if r.1 = x ∧ r.2.2 + d r.2.1 b = d x b then (aw R d b f r.2.1).map (x :: ·) else []) := h
    by_cases e : x = b
    · rw [if_pos e] at h'
      rw [List.mem_singleton.mp h', e]
      exact ⟨[], rfl, .nil⟩
    · rw [if_neg e] at h'
      obtain ⟨⟨u, y, l⟩, hr, hr2⟩ := List.mem_flatMap.mp h'
      by_cases c : u = x ∧ l + d y b = d x b
      · rw [if_pos c] at hr2
        obtain ⟨q, hq, rfl⟩ := List.mem_map.mp hr2
        obtain ⟨c', rfl, s⟩ := aw_sw f y q hq
        obtain ⟨c1, c2⟩ := c
        subst c1
        exact ⟨y :: c', rfl, .cons e hr c2 s⟩
      · rw [if_neg c] at hr2
        cases hr2
theorem sw_aw (W : Web n ws R d) {x : Nat} {c : List Nat} (h : SW R d b x c) : ∀ f, x < n → rk (fun x => d x b) n x < f → (x :: c) ∈ aw R d b f x := by
  induction h with
  | nil =>
    intro f _ hf
    cases f with
    | zero => exact absurd hf (Nat.not_lt_zero _)
    | succ f =>
      show [b] ∈ (if b = b then [[b]] else _)
      rw [if_pos rfl]
      exact List.mem_cons_self
  | cons h1 h2 h3 h4 ih =>
    rename_i x y l c
    intro f hx hf
    cases f with
    | zero => exact absurd hf (Nat.not_lt_zero _)
    | succ f =>
      have g := W.rd _ h2
      have hl : 1 ≤ l := g.2.2.2.1
      have z := rk_lt (f := fun x => d x b) (n := n) (u := y) (v := x) g.2.1 (by show d y b < d x b; omega)
      have m := ih f g.2.1 (by omega)
      show (x :: y :: c) ∈ (if x = b then [[x]] else R.flatMap fun r => if r.1 = x ∧ r.2.2 + d r.2.1 b = d x b then (aw R d b f r.2.1).map (x :: ·) else [])
      rw [if_neg h1]
      refine List.mem_flatMap.mpr ⟨_, h2, ?_⟩
      show _ ∈ (if x = x ∧ l + d y b = d x b then (aw R d b f y).map (x :: ·) else [])
      rw [if_pos ⟨rfl, h3⟩]
      exact List.mem_map.mpr ⟨_, m, rfl⟩
theorem sw_ex (W : Web n ws R d) (hb : b < n) : ∀ (m x : Nat), x < n → rk (fun x => d x b) n x < m → ∃ c, SW R d b x c
  | 0, _, _, no => (Nat.not_lt_zero _ no).elim
  | m + 1, x, hx, h => by
    by_cases e : x = b
    · subst e
      exact ⟨[], .nil⟩
    · have w := W.dw x b hx hb
      generalize hD : d x b = D at w
      cases w with
      | nil => exact absurd rfl e
      | cons h1 h2 =>
        rename_i y l L
        have g := W.rd _ h1
        have hl : 1 ≤ l := g.2.2.2.1
        have i1 := W.dl y b L g.2.1 hb h2
        have i2 := W.stepL hb h1
        have e3 : l + d y b = d x b := by omega
        have z := rk_lt (f := fun x => d x b) (n := n) (u := y) (v := x) g.2.1 (by show d y b < d x b; omega)
        obtain ⟨c, hc⟩ := sw_ex W hb m y g.2.1 (by omega)
        exact ⟨y :: c, .cons e h1 e3 hc⟩
theorem ring_mem (W : Web n ws R d) (ha : a < n) (hb : b < n) (hab : a ≠ b) (p : List Nat) : p ∈ ringsL n R d a b ↔ Ring0 R d a b p := by
  have hm : ¬ b ∈ (⟨[], a, 0⟩ : Trip).nod := fun z => hab (List.mem_singleton.mp z).symm
  unfold ringsL Ring0
  refine ⟨fun h => ?_, fun ⟨c, e1, h⟩ => ?_⟩
  · obtain ⟨u, hu, h2⟩ := List.mem_flatMap.mp h
    obtain ⟨v, hv, rfl⟩ := List.mem_map.mp h2
    obtain ⟨c1, rfl, s1⟩ := aw_sw _ _ _ hu
    obtain ⟨c2, rfl, s2⟩ := aw_sw _ _ _ hv
    refine ⟨c1 ++ c2, rfl, ?_⟩
    unfold Comp
    rw [if_neg hm]
    exact ⟨c1, c2, rfl, s1, s2⟩
  · unfold Comp at h
    rw [if_neg hm] at h
    obtain ⟨c1, c2, rfl, s1, s2⟩ := h
    refine List.mem_flatMap.mpr ⟨a :: c1, sw_aw W s1 n ha (rk_lt_n ha), List.mem_map.mpr ⟨b :: c2, sw_aw W s2 n hb (rk_lt_n hb), ?_⟩⟩
    rw [e1] <;> rfl
theorem rings_ne (W : Web n ws R d) (ha : a < n) (hb : b < n) (hab : a ≠ b) : ringsL n R d a b ≠ [] := by
  obtain ⟨c1, s1⟩ := sw_ex W hb _ a ha (Nat.lt_succ_self _)
  obtain ⟨c2, s2⟩ := sw_ex W ha _ b hb (Nat.lt_succ_self _)
  intro e
  have hm : ¬ b ∈ (⟨[], a, 0⟩ : Trip).nod := fun z => hab (List.mem_singleton.mp z).symm
  have z : (a :: (c1 ++ c2)) ∈ ringsL n R d a b := (ring_mem W ha hb hab _).mpr ⟨c1 ++ c2, rfl, by
    unfold Comp
    rw [if_neg hm]
    exact ⟨c1, c2, rfl, s1, s2⟩⟩
  rw [e] at z
  cases z
/-- THE LAW of the rings -/
theorem due_ring (W : Web n ws R d) (ha : a < n) (hb : b < n) : ∃ m, dueT R d a b (2 * n + 1) = some m ∧ ringOf n R d a b = natsD m ∧ m.length ≤ 12 := by
  have n2 := W.n2
  have n6 := W.n6
  have inv : ∀ p, Ring0 R d a b p ↔ p ∈ doneT R d a b (2 * n + 1) := fun p => by
    rw [ring_inv W ha hb (2 * n + 1) p, trips_none W ha hb (by omega)]
    exact ⟨fun h => h.elim id (fun ⟨t, ht, _⟩ => nomatch ht), .inl⟩
  have ok := dueT_ok R d a b (2 * n + 1)
  have ex : ∃ p, Ring0 R d a b p := by
    by_cases hab : a = b
    · refine ⟨[a], [], rfl, ?_⟩
      unfold Comp
      rw [if_pos (show b ∈ (⟨[], a, 0⟩ : Trip).nod by rw [hab]; exact List.mem_cons_self)]
      exact .nil
    · cases e : ringsL n R d a b with
      | nil => exact absurd e (rings_ne W ha hb hab)
      | cons p l => exact ⟨p, (ring_mem W ha hb hab p).mp (by rw [e]; exact List.mem_cons_self)⟩
  cases hd : dueT R d a b (2 * n + 1) with
  | none =>
    rw [hd] at ok
    have ok' : doneT R d a b (2 * n + 1) = [] := ok
    obtain ⟨p, hp⟩ := ex
    have z := (inv p).mp hp
    rw [ok'] at z
    cases z
  | some m =>
    rw [hd] at ok
    obtain ⟨o1, o2⟩ := ok
    have hm := (inv m).mpr o1
    by_cases hab : a = b
    · obtain ⟨c, e1, e2⟩ := hm
      unfold Comp at e2
      rw [if_pos (show b ∈ (⟨[], a, 0⟩ : Trip).nod by rw [hab]; exact List.mem_cons_self)] at e2
      have e3 : c = [] := sw_end e2
      rw [e3] at e1
      refine ⟨m, rfl, ?_, by rw [e1]; simp⟩
      rw [e1]
      exact if_pos hab
    · have hr := (ring_mem W ha hb hab m).mpr hm
      refine ⟨m, rfl, ?_, ?_⟩
      · have e : ringOf n R d a b = PySem.W.Datum.toD (bestOf (⟨[]⟩ : PySem.W.Tup Int) ((ringsL n R d a b).map natsT)) := if_neg hab
        rw [e, best_is hr fun x hx => o2 x ((inv x).mp ((ring_mem W ha hb hab x).mp hx)), natsT_D]
      · unfold ringsL at hr
        obtain ⟨u, hu, h2⟩ := List.mem_flatMap.mp hr
        obtain ⟨v, hv, rfl⟩ := List.mem_map.mp h2
        have l1 := aw_plen _ _ _ hu
        have l2 := aw_plen _ _ _ hv
        rw [List.length_append, List.length_tail]
        omega
/-! the best round against the best in and the best out -/
theorem min_mem {α : Type} [DecidableEq α] [PySem.W.DatumOrd α] : ∀ (l : List α) (x : α), PySem.W.minOf x l ∈ x :: l
  | [], x => List.mem_cons_self
  | y :: l, x => by
    show PySem.W.minOf (if PySem.W.DatumOrd.lt y x = true then y else x) l ∈ _
    by_cases h : PySem.W.DatumOrd.lt y x = true
    · rw [if_pos h]
      exact List.mem_cons_of_mem _ (min_mem l y)
    · rw [if_neg h]
      rcases List.mem_cons.mp (min_mem l x) with e | e
      · rw [e]; exact List.mem_cons_self
      · exact List.mem_cons_of_mem _ (List.mem_cons_of_mem _ e)
theorem best_mem {n : Nat} {ws : List Int} {d : Nat → Nat → Int} {c : Int} (h2 : 2 ≤ n) (h6 : n ≤ 6) (hc : 1 ≤ c) (hn : c ≤ n) : ∃ hs, hs ∈ allSets n ∧ (hs.length : Int) = c ∧ bestOf (0, ⟨[]⟩) (cands n ws d c) = (rsum n ws d hs, natsT hs) := by
  cases e : cands n ws d c with
  | nil => exact absurd e (cands_ne h2 h6 hc hn)
  | cons x l =>
    have m : PySem.W.minOf x l ∈ cands n ws d c := by rw [e]; exact min_mem l x
    unfold cands at m
    obtain ⟨hs, h1, h3⟩ := List.mem_map.mp m
    obtain ⟨h4, h5⟩ := List.mem_filter.mp h1
    exact ⟨hs, h4, of_decide_eq_true h5, h3.symm⟩
theorem sum_add (l : List Nat) (f g : Nat → Int) : (l.map fun k => f k + g k).sum = (l.map f).sum + (l.map g).sum := by
  induction l with
  | nil => rfl
  | cons x l ih =>
    rw [List.map_cons, List.map_cons, List.map_cons, List.sum_cons, List.sum_cons, List.sum_cons, ih]
    omega
theorem best_one {hs : List Nat} (h : hs ∈ allSets n) (hl : (hs.length : Int) = 1) : minL (ins n ws d) + minL (outs n ws d) ≤ rsum n ws d hs := by
  have hl' : hs.length = 1 := by omega
  obtain ⟨x, rfl⟩ := List.length_eq_one_iff.mp hl'
  have hx : x < n := by
    unfold allSets at h
    obtain ⟨m, _, e⟩ := List.mem_map.mp h
    have z : x ∈ memb (m + 1) n := by rw [e]; exact List.mem_cons_self
    exact List.mem_range.mp (List.mem_filter.mp z).1
  have e : rsum n ws d [x] = inSum n ws d x + outSum n ws d x := by
    unfold rsum inSum outSum
    rw [← sum_add]
    congr 1
    refine (List.map_congr_left fun k _ => ?_)
    show ws.getD k 0 * (d k x + d x k) = _
    rw [Int.mul_add]
  rw [e]
  have h1 : minL (ins n ws d) ≤ inSum n ws d x := minL_le (List.mem_map.mpr ⟨x, List.mem_range.mpr hx, rfl⟩)
  have h2 : minL (outs n ws d) ≤ outSum n ws d x := minL_le (List.mem_map.mpr ⟨x, List.mem_range.mpr hx, rfl⟩)
  omega
end
end K7
/-! ### part 15: the law -/
namespace K7
open PySem L2
def spLaw (K : PySem.W.Frag) : Sp := fun vs H Q _ => ∃ (sc : Addr) (ns : List Int), vs = [.ref sc] ∧ SqL K H sc (ns.map V.int) ∧ ns.length ≤ 63 ∧ ∀ H', Q (.bl true) H'
section
variable {K : PySem.W.Frag} {H H' : Hp} {rl sc : Addr} {ns : List Int} {σ : St} {D : Ends} {te ta : TE} {tz : TS} {tr : TA} {d1 d2 d3 : PyData}
theorem ed_neg {i : Int} (h : EvD K te σ H (.int i)) : EvD K (tUn (rU fun i => .int (-i)) te) σ H (.int (-i)) := fun H1 e Q q => h H1 e _ fun v H2 e2 p => ⟨i, dp_int p, q _ H2 e2 (.int _)⟩
theorem q_par3 {i j l : Nat} (h : EvA K tr σ H [d1, d2, d3]) (k : ∀ x y z H1, Same H H1 → Dp K H1 x d1 → Dp K H1 y d2 → Dp K H1 z d3 → tz D (((σ.set i (some x)).set j (some y)).set l (some z)) H1) :
    tSeq (tPar3 i j l tr) tz D σ H := h H (Same.refl _) _ fun vs H1 e ps => by
  obtain ⟨x, y, z, rfl, p1, p2, p3⟩ := dps3 ps
  exact ⟨x, y, z, rfl, k x y z _ e p1 p2 p3⟩
theorem q_tk2 {i j r1 r2 : Nat} {m1 m2 : Int} {E1 E2 : XK} {tf : TE} (hr1 : σ[r1]? = some (some (.ref rl))) (hr2 : σ[r2]? = some (some (.ref rl))) (hL : LR K H rl sc ns) (hm1 : EvD K te σ H (.int m1)) (a1 : 1 ≤ m1) (a2 : m1 ≤ 1000) (hm2 : ∀ H', EvD K tf σ H' (.int m2)) (b1 : 1 ≤ m2) (b2 : m2 ≤ 1000)
    (k : ∀ (u v : Int) H', 0 ≤ u → u < m1 → 0 ≤ v → v < m2 → LR K H' rl sc ns → But rl H H' → tz D ((σ.set i (some (.int u))).set j (some (.int v))) H') :
    tSeq (tPar i j (tCons (tCall (spTk K) [] E1 (tCons (tVar r1) (tCons te tNil))) (tCons (tCall (spTk K) [] E2 (tCons (tVar r2) (tCons tf tNil))) tNil))) tz D σ H :=
  t_tk (K := K) hr1 hL hm1 a1 a2 fun u H1 u0 u1 l1 e1 => t_tk (K := K) hr2 l1 (hm2 H1) b1 b2 fun v H2 v0 v1 l2 e2 => ⟨_, _, rfl, k u v H2 u0 u1 v0 v1 l2 (e1.trans e2)⟩
theorem s_glB {Hb : Hp} {l : Addr} {i : Nat} {ds : List PyData} {d : PyData} (hi : σ[i]? = some (some (.ref l))) (hg : GL K Hb H l ds) (h : EvD K te σ H d) (t1 : TDs ds = true) (t2 : TD d = true) (hz : ds.length < 10000000) (k : ∀ H', But l H H' → GL K Hb H' l (ds ++ [d]) → D.nx σ H') :
    tDrop (tBM K "list" rAppend (tVar i) (tCons te tNil)) D σ H := q_gl (tz := fun D => D.nx) hi hg h t1 t2 hz k
theorem but_lst {l : Addr} {xs : List V} (h : H l = some (.lst xs)) (e : But l H H') : TKeep H H' :=
  ⟨fun b ys q => e _ _ (ne_of q h (by intro z; cases z)) q, fun b o u q => e _ _ (ne_of q h (by intro z; cases z)) q⟩
/-- the table stays beside the row -/
theorem rows_but {n : Nat} {M : Nat → Nat → Int} {v : V} (h : LR K H rl sc ns) (e : But rl H H') (n2 : 2 ≤ n) (hd : Dp K H v (rowsD n M)) : Dp K H' v (rowsD n M) := by
  obtain ⟨a, xs, rfl, hs, hall⟩ := dp_lst hd
  have hall' : ∀ (l : List Nat) (xs : List V), DpAll K H xs (l.map fun i => rowD n (M i)) → DpAll K H' xs (l.map fun i => rowD n (M i)) := fun l => by
    induction l with
    | nil => intro xs z; cases z; exact .nil
    | cons i l ih =>
      intro xs z
      cases z with
      | cons z1 z2 =>
        refine .cons ?_ (ih _ z2)
        have z1' : Dp K H _ (rowD n (M i)) := z1
        show Dp K H' _ (rowD n (M i))
        rw [rowD_ints] at z1' ⊢
        exact dpl_but h e z1'
  refine .lst ?_ (hall' _ _ hall)
  obtain ⟨x, y, c, h1, _⟩ := h
  rcases hs with (hs | ⟨o, hs⟩) | hs
  · refine .inl (.inl (e _ _ (fun z => ?_) hs))
    rw [z, h1] at hs
    injection hs with hs
    injection hs with hs
    subst hs
    obtain ⟨u, hu, hd⟩ := dps_get (i := 1) (d := rowD n (M 1)) hall (by rw [List.getElem?_map, List.getElem?_range n2] <;> rfl)
    cases hu
    cases hd
  · exact .inl (.inr ⟨o, e _ _ (ne_of hs h1 (by intro z; cases z)) hs⟩)
  · exact .inr hs
end
def tripD (t : Trip) : PyData := .tuple [natsD t.nod, .int t.far]
def dueD : Option (List Nat) → PyData
  | none => .none
  | some m => natsD m
theorem td_trip (t : Trip) : TD (tripD t) = true := by
  have h := td_nats t.nod
  simp [tripD, TD, TDs, h]
theorem td_due (m : Option (List Nat)) : TD (dueD m) = true := by
  cases m with
  | none => rfl
  | some m => exact td_nats m
theorem inV_nats (b : Nat) : ∀ p : List Nat, inV (.int (b : Int)) ((natI p).map V.int) = decide (b ∈ p)
  | [] => rfl
  | x :: p => by
    have i := inV_nats b p
    show (((x : Int) == (b : Int)) || inV (.int (b : Int)) ((natI p).map V.int)) = _
    rw [i]
    by_cases e : x = b
    · subst e; simp
    · rw [beq_eq_false_iff_ne.mpr (by omega), Bool.false_or]
      exact decide_eq_decide.mpr ⟨fun z => List.mem_cons_of_mem _ z, fun z => (List.mem_cons.mp z).elim (fun q => absurd q.symm e) id⟩
theorem at_last (t : Trip) : atI (t.nod.map fun k : Nat => PyData.int (k : Int)) (-1) = some (.int (t.x : Int)) := by
  unfold Trip.nod atI
  rw [List.map_append, List.length_append, List.length_map]
  have e : ixN (t.pre.length + ([t.x].map fun k : Nat => PyData.int (k : Int)).length) (-1) = some t.pre.length := by
    rw [List.map_cons, List.map_nil, List.length_singleton]
    unfold ixN
    rw [if_neg (by omega), if_pos (by omega)]
    congr 1
    omega
  rw [e]
  show (t.pre.map (fun k : Nat => PyData.int (k : Int)) ++ [.int (t.x : Int)])[t.pre.length]? = _
  rw [List.getElem?_append_right (by rw [List.length_map]; exact Nat.le_refl _), List.length_map, Nat.sub_self] <;> rfl
theorem dec_nat (x y : Nat) : decide ((x : Int) = (y : Int)) = decide (x = y) := decide_eq_decide.mpr ⟨fun z => by omega, fun z => by omega⟩
theorem it3_nats {p : List Nat} (h : p.length ≤ 1000) : IT 2 (natsD p) := .inr ⟨_, rfl, by rw [List.length_map]; exact h, fun e he => by
  obtain ⟨k, _, rfl⟩ := List.mem_map.mp he
  exact .inl ⟨_, rfl⟩⟩
theorem it_up {d : PyData} : IT 2 d → IT 3 d := fun h => by
  rcases h with h | ⟨ds, rfl, hl, hall⟩
  · exact .inl h
  · refine .inr ⟨ds, rfl, hl, fun e he => ?_⟩
    rcases hall e he with h | ⟨es, rfl, hl, hall2⟩
    · exact .inl h
    · exact .inr ⟨es, rfl, hl, fun f hf => (hall2 f hf).elim⟩
theorem set_ok {n : Nat} {hs : List Nat} {c : Int} (n6 : n ≤ 6) (hc : 1 ≤ c) (h : hs ∈ allSets n) (hl : (hs.length : Int) = c) : HOkH n hs := by
  unfold allSets at h
  obtain ⟨m, _, rfl⟩ := List.mem_map.mp h
  refine memb_ok n6 fun z => ?_
  rw [z] at hl
  simp at hl
  omega
theorem sets_len (n : Nat) : (allSets n).length = 2 ^ n - 1 := by unfold allSets; rw [List.length_map, List.length_range]
theorem doneOf_next {d : Nat → Nat → Int} {a b : Nat} {l : List Trip} {i : Nat} {t : Trip} (h : l[i]? = some t) : doneOf d a b (l.take (i + 1)) = doneOf d a b (l.take i) ++ if t.fin d a b = true then [t.nod] else [] := by
  unfold doneOf
  rw [List.take_succ, h, List.filter_append, List.map_append]
  show _ ++ (([t].filter fun t => t.fin d a b).map Trip.nod) = _
  rw [List.filter_cons]
  by_cases c : t.fin d a b = true
  · rw [if_pos c, if_pos c] <;> rfl
  · rw [if_neg c, if_neg c] <;> rfl
section
variable {P : Program} {w : World} {K : PySem.W.Frag} {mg : Str → Option Value} {base : Heap}
theorem sc_law : FnScope ["_law_script", "_law_row", "_law_one", "_law_rows", "_law_size", "_law_count", "_law_some", "_law_a", "_law_b", "_law_whole", "_law_walks", "_law_due", "_law_turn", "_law_more", "_law_nodes", "_law_far", "_law_x", "_law_y", "_law_length", "_law_lot"] ["_law_script"] (defScope s_law) := ⟨rfl, rfl, rfl, by decide +kernel, rfl, by decide +kernel, by decide +kernel⟩
theorem c_law (T : TB mg) (CT : Cal P w K mg base 1 "_law_taken" ["_law_row", "_law_many"] (spTk K)) (COW : Cal P w K mg base 3 "_law_oneway" ["_law_row", "_law_most"] (spOw K)) (CLR : CalD P w K mg base 1 "_law_rows_there" ["_law_oneway_here"] R_lr)
    (CSE : Cal P w K mg base 1 "_law_sets" ["_law_count"] (SpM K R_se)) (CAL : CalD P w K mg base 3 "_law_alike" ["_law_found", "_law_due"] (R_al 3)) (CRS : CalD P w K mg base 4 "round_sum" ["oneway", "houses"] R_rs) (CBR : CalD P w K mg base 4 "best_round" ["oneway", "count"] R_br)
    (CBI : CalD P w K mg base 4 "best_in" ["oneway"] R_bi) (CBO : CalD P w K mg base 4 "best_out" ["oneway"] R_bo) (CRR : CalD P w K mg base 8 "round_ring" ["oneway", "a", "b"] R_rr) {fa : Addr} {fd : FuncData} (FL : Fun K "law" "law" s_law fa fd) : FnOk P w K mg base CX0 9 fa fd ["_law_script"] (spLaw K) := by
  refine FL.ok sc_law (fun vs H Q E h => ?_) (fun cdv A outer s H vs Q E hr h => ?_)
  · obtain ⟨_, _, rfl, _⟩ := h
    rfl
  obtain ⟨sc, ns, rfl, hS, h63, q⟩ := h
  refine ⟨_, (pss_cons (ps_set (i := 1) sc_law.nd rfl (Or.inl rfl) (pe_lst (pa_cons (pv 0) (pa_cons pe_int (pa_cons pe_int (pa_cons pe_int pa_nil))))))
    (pss_cons (ps_set (i := 2) sc_law.nd rfl (Or.inr rfl) (pe_callC COW (hr.mono (by decide)) rfl (pa_cons (pv 1) (pa_cons pe_int pa_nil))))
    (pss_cons (ps_par rfl sc_law.nd (i := 3) (j := 4) rfl rfl (by decide) rfl rfl (pa_cons (pe_callC CLR (hr.mono (by decide)) rfl (pa_cons (pv 2) pa_nil)) (pa_cons (pe_callB (k_len K) rfl T.len (by decide +kernel) (pa_cons (pe_ix (k_ixT K) (pv 2) pe_int (fun _ _ => rfl)) pa_nil)) pa_nil)) (by rfl))
    (pss_cons (ps_set (i := 5) sc_law.nd rfl (Or.inr rfl) (pe_op op_add pe_int (pe_callC CT (hr.mono (by decide)) rfl (pa_cons (pv 1) (pa_cons (pv 4) pa_nil)))))
    (pss_cons (ps_setLc (i := 6) (own := [("_law_lot", 19)]) (g := (gName 19)) rfl sc_law.nd rfl rfl (sw_true rfl rfl rfl (by decide +kernel)) (k_pilist K (pe_callC CSE (hr.mono (by decide)) rfl (pa_cons (pv 4) pa_nil))) (blkOk_by (own := [("_law_lot", 19)]) (N := ["_law_script", "_law_row", "_law_one", "_law_rows", "_law_size", "_law_count", "_law_some", "_law_a", "_law_b", "_law_whole", "_law_walks", "_law_due", "_law_turn", "_law_more", "_law_nodes", "_law_far", "_law_x", "_law_y", "_law_length", "_law_lot"]) (sc := defScope s_law) (by decide +kernel)) (fun _ _ _ _ _ => (pg_name (i := 19) sc_law.nd rfl (Or.inl rfl))) (fun _ _ _ _ _ => (pts_one (pt_cmpR op_eq (pe_callB (k_len K) rfl T.len (by decide +kernel) (pa_cons (pv 19) pa_nil)) (pv 5) (nomark _)))) (fun _ _ _ _ _ => (pe_tup (pa_cons (pe_callC CRS (hr.mono (by decide)) rfl (pa_cons (pv 2) (pa_cons (pv 19) pa_nil))) (pa_cons (pv 19) pa_nil)))))
    (pss_cons (ps_if (pt_not (pt_val (pe_callC CAL (hr.mono (by decide)) rfl (pa_cons (pe_callC CBR (hr.mono (by decide)) rfl (pa_cons (pv 2) (pa_cons (pv 5) pa_nil))) (pa_cons (pe_callB (k_minD BR K (roomD hr)) rfl T.min (by decide +kernel) (pa_cons (pv 6) pa_nil)) pa_nil))))) (pss_one (ps_ret pe_bl)) pss_nil)
    (pss_cons (ps_if (pt_cmpR op_lt (pe_ix (k_ixT K) (pe_callC CBR (hr.mono (by decide)) rfl (pa_cons (pv 2) (pa_cons pe_int pa_nil))) pe_int (fun _ _ => rfl)) (pe_op op_add (pe_ix (k_ixT K) (pe_callC CBI (hr.mono (by decide)) rfl (pa_cons (pv 2) pa_nil)) pe_int (fun _ _ => rfl)) (pe_ix (k_ixT K) (pe_callC CBO (hr.mono (by decide)) rfl (pa_cons (pv 2) pa_nil)) pe_int (fun _ _ => rfl))) (nomark _)) (pss_one (ps_ret pe_bl)) pss_nil)
    (pss_cons (ps_par rfl sc_law.nd (i := 7) (j := 8) rfl rfl (by decide) rfl rfl (pa_cons (pe_callC CT (hr.mono (by decide)) rfl (pa_cons (pv 1) (pa_cons (pv 4) pa_nil))) (pa_cons (pe_callC CT (hr.mono (by decide)) rfl (pa_cons (pv 1) (pa_cons (pv 4) pa_nil))) pa_nil)) (by rfl))
    (pss_cons (ps_par3 rfl sc_law.nd (i := 9) (j := 10) (l := 11) rfl rfl rfl (by decide) (by decide) (by decide) rfl rfl rfl (pa_cons (pe_op op_add (pe_ix (k_ixL K) (pe_ix (k_ixL K) (pv 3) (pv 7) (fun _ _ => rfl)) (pv 8) (fun _ _ => rfl)) (pe_ix (k_ixL K) (pe_ix (k_ixL K) (pv 3) (pv 8) (fun _ _ => rfl)) (pv 7) (fun _ _ => rfl))) (pa_cons (pe_lst (pa_cons (pe_tup (pa_cons (pe_tup (pa_cons (pv 7) pa_nil)) (pa_cons pe_int pa_nil))) pa_nil)) (pa_cons pe_non pa_nil))) (by rfl))
    (pss_cons (ps_for PassesOwn.never rfl (pi_range1 rfl T.range (pa_cons (pe_op op_add (pe_op op_mul pe_int (pv 4)) pe_int) pa_nil)) (pg_name (i := 12) sc_law.nd rfl (Or.inl rfl))
      (pss_cons (ps_set (i := 13) sc_law.nd rfl (Or.inl rfl) (pe_lst pa_nil))
    (pss_cons (ps_for PassesOwn.never rfl (k_pilist K (pv 10)) (k_gtup K (pgs_cons (pg_name (i := 14) sc_law.nd rfl (Or.inl rfl)) (pgs_cons (pg_name (i := 15) sc_law.nd rfl (Or.inl rfl)) pgs_nil)))
      (pss_one (ps_if (PW.pt (pw_and (pt_cmpR op_eq (pv 15) (pv 9) (nomark _)) (pw_and (pt_cmpR op_eq (pe_ix (k_ixT K) (pv 14) (pe_un un_neg pe_int) (fun _ _ => rfl)) (pv 7) (nomark _)) (pw_and1 (pt_cmpR (k_in K) (pv 8) (pv 14) (by rfl)))))) (pss_one (ps_set (i := 11) sc_law.nd rfl (Or.inl rfl) (pe_ifExp (PW.pt (pw_or (pt_cmpR op_isN (pv 11) pe_non (nomark _)) (pw_or1 (pt_cmpR (k_ltT K hr.units0) (pv 14) (pv 11) (nomark _))))) (pv 14) (pv 11)))) (pss_one (ps_for PassesOwn.never rfl (k_pitup K (pe_ix (k_ixT K) (pv 2) pe_int (fun _ _ => rfl))) (k_gtup K (pgs_cons (pg_name (i := 16) sc_law.nd rfl (Or.inl rfl)) (pgs_cons (pg_name (i := 17) sc_law.nd rfl (Or.inl rfl)) (pgs_cons (pg_name (i := 18) sc_law.nd rfl (Or.inl rfl)) pgs_nil))))
      (pss_one (ps_if (PW.pt (pw_and (pt_cmpR op_eq (pv 16) (pe_ix (k_ixT K) (pv 14) (pe_un un_neg pe_int) (fun _ _ => rfl)) (nomark _)) (pw_and1 (pt_cmpR op_eq (pe_op op_add (pe_op op_add (pv 15) (pv 18)) (pe_ifExp (pt_cmpR (k_in K) (pv 8) (pe_op (k_catT K) (pv 14) (pe_tup (pa_cons (pv 17) pa_nil))) (by rfl)) (pe_ix (k_ixL K) (pe_ix (k_ixL K) (pv 3) (pv 17) (fun _ _ => rfl)) (pv 7) (fun _ _ => rfl)) (pe_op op_add (pe_ix (k_ixL K) (pe_ix (k_ixL K) (pv 3) (pv 17) (fun _ _ => rfl)) (pv 8) (fun _ _ => rfl)) (pe_ix (k_ixL K) (pe_ix (k_ixL K) (pv 3) (pv 8) (fun _ _ => rfl)) (pv 7) (fun _ _ => rfl))))) (pv 9) (nomark _))))) (pss_one (ps_expr (pe_bm PySem.F.plainAttrs_list PySem.F.slot_list_append PySem.F.type_list_append mt_append (pv 13) (pa_cons (pe_tup (pa_cons (pe_op (k_catT K) (pv 14) (pe_tup (pa_cons (pv 17) pa_nil))) (pa_cons (pe_op op_add (pv 15) (pv 18)) pa_nil))) pa_nil)))) pss_nil)))))))
    (pss_one (ps_set (i := 10) sc_law.nd rfl (Or.inl rfl) (pv 13))))))
    (pss_one (ps_ret (pe_callC CAL (hr.mono (by decide)) rfl (pa_cons (pe_callC CRR (hr.mono (by decide)) rfl (pa_cons (pv 2) (pa_cons (pv 7) (pa_cons (pv 8) pa_nil)))) (pa_cons (pv 11) pa_nil))))))))))))))), ?_⟩
  refine ⟨_, rfl, by show 4 ≤ sizeLine; decide, fun rl hrl => ?_⟩
  have hL0 : LR K (upd H rl (.lst [.ref sc, .int 0, .int 6378, .int 0])) rl sc ns := lr_of upd_same ((same_new hrl).seq hS) h63 (by omega) (by omega) (by omega)
  generalize upd H rl (.lst [.ref sc, .int 0, .int 6378, .int 0]) = H0 at hL0
  refine ⟨_, rfl, rl, sc, ns, rfl, hL0, fun v1 H1 n ws R d W l1 b1 hd1 => ?_⟩
  have n2 := W.n2
  have n6 := W.n6
  have hlw : (ws.map PyData.int).length = n := by rw [List.length_map, W.wl]
  refine q_par2 (K := K) (ea_cons (ep_call (ea_cons (ed_var rfl hd1) ea_nil) (spD_of ⟨n, ws, R, d, W, rfl, rfl⟩)) (ea_cons (ep_cb (ea_cons (ed_op (ed_var rfl hd1) ed_int (ro_ixT (d := intsD ws) rfl)) ea_nil) (rc_lenT hlw)) ea_nil)) fun v3 y H2 e2 h3 hy => ?_
  cases hy
  have hd2 := dp_same e2 _ _ hd1
  have l2 := l1.same e2
  have tdw : TD (webD ws R) = true := by
    have h1 := td_ints ws
    have h2 : TDs (R.map roadD) = true := tds_map fun _ => rfl
    simp [webD, TD, TDs, h1, h2]
  refine q_tkAdd (K := K) rfl l2 (m := (n : Int)) (ed_vari rfl) (by omega) (by omega) fun v H3 v0 vn l3 b3 => ?_
  have hd3 := dp_but l2 b3 tdw hd2
  have hr3 := rows_but l2 b3 n2 h3
  generalize hc : 1 + v = c
  have hc1 : 1 ≤ c := by omega
  have hc2 : c ≤ n := by omega
  have hpow : 2 ^ n ≤ 64 := Nat.pow_le_pow_right (n := 2) (by decide) n6
  refine q_asg (EvM.is (em_lcN (K := K) (ei_lst (ds := (allSets n).map natsD) (EvM.toD (ep_call (ea_cons (ed_vari rfl) ea_nil) (spM_of ⟨n, n2, n6, rfl, rfl⟩)))) (fun i => decide ((((allSets n).getD i []).length : Int) = c)) (fun i => .tuple [.int (rsum n ws d ((allSets n).getD i [])), natsD ((allSets n).getD i [])]) (fun _ => rfl) (by rw [List.length_map, sets_len]; omega)
    (fun _ _ _ => td_pair _ _) fun i e y H5 he e5 hy => ?_) (show _ = (cands n ws d c).map PySem.W.Datum.toD from ?_)) fun v6 H4 e4 h6 => ?_
  · rw [List.getElem?_map] at he
    obtain ⟨hs, hhs, rfl⟩ := Option.map_eq_some_iff.mp he
    have eg : (allSets n).getD i [] = hs := by rw [List.getD_eq_getElem?_getD, hhs] <;> rfl
    have hle : (hs.map fun k : Nat => PyData.int (k : Int)).length = hs.length := List.length_map _
    refine ⟨?_, fun hf => ?_⟩
    · show EvB _ _ H5 (decide ((((allSets n).getD i []).length : Int) = c))
      rw [eg]
      exact eb_test (K := K) (ed_op (ep_cb (ea_cons (ed_var rfl hy) ea_nil) (rc_lenT hle)) (ed_vari rfl) ro_eq)
    · show EvD K _ _ H5 (.tuple [.int (rsum n ws d ((allSets n).getD i [])), natsD ((allSets n).getD i [])])
      rw [eg] at hf ⊢
      have hok := set_ok n6 hc1 (List.mem_of_getElem? hhs) (of_decide_eq_true hf)
      exact ed_tup (ea_cons (ep_call (ea_cons (ed_var rfl (dp_same e5 _ _ hd3)) (ea_cons (ed_var rfl hy) ea_nil)) (spD_of ⟨n, ws, R, d, hs, W, hok, rfl, rfl⟩)) (ea_cons (ed_var rfl hy) ea_nil)) (by simp)
  · rw [List.length_map]
    rw [given_filter (allSets n) (fun hs => decide ((hs.length : Int) = c)) (fun hs => .tuple [.int (rsum n ws d hs), natsD hs]) []]
    unfold cands
    rw [List.map_map]
    refine List.map_congr_left fun hs _ => ?_
    show PyData.tuple [.int _, natsD hs] = PyData.tuple [.int _, PySem.W.Datum.toD (natsT hs)]
    rw [natsT_D]
  have hd4 := dp_same e4 _ _ hd3
  have hr4 := dp_same e4 _ _ hr3
  have l4 := l3.same e4
  obtain ⟨hs, m1, m2, m3⟩ := best_mem (n := n) (ws := ws) (d := d) n2 n6 hc1 hc2
  have hbD : PySem.W.Datum.toD (bestOf (0, ⟨[]⟩) (cands n ws d c)) = .tuple [.int (rsum n ws d hs), natsD hs] := by
    rw [m3]
    show PyData.tuple [.int _, PySem.W.Datum.toD (natsT hs)] = _
    rw [natsT_D]
  have hit : IT 3 (PySem.W.Datum.toD (bestOf (0, ⟨[]⟩) (cands n ws d c))) := by
    rw [hbD]
    refine .inr ⟨_, rfl, by simp, fun e he => ?_⟩
    rcases (List.mem_cons).mp he with rfl | he
    · exact .inl ⟨_, rfl⟩
    · rw [List.mem_singleton.mp he]
      exact it3_nats (by omega)
  have hmin : RCD K (rMinD BR K) [.list ((cands n ws d c).map PySem.W.Datum.toD)] (PySem.W.Datum.toD (bestOf (0, ⟨[]⟩) (cands n ws d c))) := by
    cases hcs : cands n ws d c with
    | nil => exact absurd hcs (cands_ne n2 n6 hc1 hc2)
    | cons x l => exact rc_minD rfl
  refine q_no (EvB.is (eb_not (eb_B (ep_call (ea_cons (ep_call (ea_cons (ed_var rfl hd4) (ea_cons (ed_vari rfl) ea_nil)) (spD_of ⟨n, ws, R, d, c, W, hc1, hc2, rfl, rfl⟩)) (ea_cons (ep_cb (ea_cons (ed_var rfl h6.dp) ea_nil) hmin) ea_nil)) (spD_of ⟨_, hit, rfl, rfl⟩)))) rfl) fun H5 e5 => ?_
  have hd5 := dp_same e5 _ _ hd4
  have hr5 := dp_same e5 _ _ hr4
  have l5 := l4.same e5
  obtain ⟨h1, p1, p2, p3⟩ := best_mem (n := n) (ws := ws) (d := d) (c := 1) n2 n6 (by omega) (by omega)
  have hbD1 : PySem.W.Datum.toD (bestOf (0, ⟨[]⟩) (cands n ws d 1)) = .tuple [.int (rsum n ws d h1), natsD h1] := by
    rw [p3]
    show PyData.tuple [.int _, PySem.W.Datum.toD (natsT h1)] = _
    rw [natsT_D]
  have hle1 := best_one (ws := ws) (d := d) p1 p2
  refine q_no (EvB.is (eb_test (K := K) (ed_op (ed_op (EvD.is (ep_call (ea_cons (ed_var rfl hd5) (ea_cons ed_int ea_nil)) (spD_of ⟨n, ws, R, d, 1, W, by omega, by omega, rfl, rfl⟩)) hbD1) ed_int (ro_ixT (d := .int (rsum n ws d h1)) rfl))
    (ed_op (ed_op (ep_call (ea_cons (ed_var rfl hd5) ea_nil) (spD_of ⟨n, ws, R, d, W, rfl, rfl⟩)) ed_int (ro_ixT (d := .int (minL (ins n ws d))) rfl)) (ed_op (ep_call (ea_cons (ed_var rfl hd5) ea_nil) (spD_of ⟨n, ws, R, d, W, rfl, rfl⟩)) ed_int (ro_ixT (d := .int (minL (outs n ws d))) rfl)) ro_add) ro_cmp)) (decide_eq_false (by omega))) fun H6 e6 => ?_
  have hd6 := dp_same e6 _ _ hd5
  have hr6 := dp_same e6 _ _ hr5
  refine q_tk2 (K := K) rfl rfl (l5.same e6) (m1 := (n : Int)) (m2 := (n : Int)) (ed_vari rfl) (by omega) (by omega) (fun _ => ed_vari rfl) (by omega) (by omega) fun a b H7 a0 an b0 bn l7 b7 => ?_
  obtain ⟨a, rfl⟩ : ∃ k : Nat, a = (k : Int) := ⟨a.toNat, by omega⟩
  obtain ⟨b, rfl⟩ : ∃ k : Nat, b = (k : Int) := ⟨b.toNat, by omega⟩
  have ha : a < n := by omega
  have hb : b < n := by omega
  have hd7 := dp_but (l5.same e6) b7 tdw hd6
  have hr7 := rows_but (l5.same e6) b7 n2 hr6
  refine q_par3 (K := K) (d1 := .int (whole d a b)) (d2 := .list [tripD ⟨[], a, 0⟩]) (d3 := .none) (ea_cons (ed_op (ed_op (ed_op (ed_var rfl hr7) (ed_vari rfl) (ro_ixL (rows_at ha))) (ed_vari rfl) (ro_ixL (row_at hb))) (ed_op (ed_op (ed_var rfl hr7) (ed_vari rfl) (ro_ixL (rows_at hb))) (ed_vari rfl) (ro_ixL (row_at ha))) ro_add)
    (ea_cons (EvM.toD (em_lst (ds := [tripD ⟨[], a, 0⟩]) (ea_cons (ed_tup (ds := [natsD [a], .int 0]) (ea_cons (ed_tup (ds := [.int (a : Int)]) (ea_cons (ed_vari rfl) ea_nil) (by simp)) (ea_cons ed_int ea_nil)) (by simp)) ea_nil) (by simp))) (ea_cons ed_non ea_nil))) fun v9 v10 v11 H8 e8 h9 h10 h11 => ?_
  cases h9
  have hd8 := dp_same e8 _ _ hd7
  have hr8 := dp_same e8 _ _ hr7
  refine q_for (K := K) (H0 := H8) (ei_rng1 (n := 2 * n + 1) (ea_cons (EvD.is (ed_op (ed_op ed_int (ed_vari rfl) (ro_mul (.inl ⟨by omega, by omega⟩))) ed_int ro_add) (by congr 1 <;> omega)) ea_nil) (by omega)) (Same.refl H8)
    (fun k σ' H' => Same H8 H' ∧ ∃ x10 x11 : V, Dp K H' x10 (.list ((tripsT R d a b k).map tripD)) ∧ Dp K H' x11 (dueD (dueT R d a b k)) ∧ ∃ u12 u13 u14 u15 u16 u17 u18 : Option V, σ' = [some (.ref sc), some (.ref rl), some v1, some v3, some (.int (n : Int)), some (.int c), some v6, some (.int (a : Int)), some (.int (b : Int)), some (.int (whole d a b)), some x10, some x11, u12, u13, u14, u15, u16, u17, u18, none])
    (fun H9 e9 => ⟨e9, v10, v11, dp_same e9 _ _ h10, dp_same e9 _ _ h11, none, none, none, none, none, none, none, rfl⟩) (fun i σ' H' _ z => z.1) (fun k e x σ' H' H9 he z e9 hx => ?_) fun σ' H' z => ?_
  · obtain ⟨hk, rfl⟩ := rngD_get' he
    cases hx
    obtain ⟨z1, x10, x11, z2, z3, u12, u13, u14, u15, u16, u17, u18, rfl⟩ := z
    have tok := trips_ok W ha hb k
    have tlen := trips_len W ha hb (k + 1)
    have z2' := dp_same e9 _ _ z2
    have z3' := dp_same e9 _ _ z3
    have hdk := dp_same (z1.trans e9) _ _ hd8
    have hrk := dp_same (z1.trans e9) _ _ hr8
    generalize hW : tripsT R d a b k = Wk at z2' tok
    have eW1 : tripsT R d a b (k + 1) = Wk.flatMap fun t => t.nexts R d a b := by rw [← hW] <;> rfl
    have eD1 : dueT R d a b (k + 1) = (doneOf d a b Wk).foldl better (dueT R d a b k) := by rw [← hW] <;> rfl
    rw [eW1] at tlen
    refine q_newL (K := K) fun p Ha ea ga => ?_
    refine q_for (K := K) (H0 := H9) (ei_lstV rfl z2') ga.2.1 (fun i σ' H' => GL K H9 H' p (((Wk.take i).flatMap fun t => t.nexts R d a b).map tripD) ∧ ∃ x11 : V, Dp K H' x11 (dueD ((doneOf d a b (Wk.take i)).foldl better (dueT R d a b k))) ∧ ∃ u12 u14 u15 u16 u17 u18 : Option V, σ' = [some (.ref sc), some (.ref rl), some v1, some v3, some (.int (n : Int)), some (.int c), some v6, some (.int (a : Int)), some (.int (b : Int)), some (.int (whole d a b)), some x10, some x11, u12, some (.ref p), u14, u15, u16, u17, u18, none])
      (fun Hb eb => ⟨ga.same eb, x11, dp_same (ea.trans eb) _ _ z3', _, _, _, _, _, _, rfl⟩) (fun i σ' H' _ z => z.1.2.1) (fun i e y σ' Hb Hc he z ec hy => ?_) fun σ' Hb z => ?_
    · rw [List.getElem?_map] at he
      obtain ⟨t, ht, rfl⟩ := Option.map_eq_some_iff.mp he
      have ot := tok t (List.mem_of_getElem? ht)
      obtain ⟨y1, x11, y2, u12, u14, u15, u16, u17, u18, rfl⟩ := z
      have gc := y1.same ec
      have dc := dp_same ec _ _ y2
      obtain ⟨x14, x15, w14, w15, hq⟩ := g_tup2 (σ := [some (.ref sc), some (.ref rl), some v1, some v3, some (.int (n : Int)), some (.int c), some v6, some (.int (a : Int)), some (.int (b : Int)), some (.int (whole d a b)), some x10, some x11, u12, some (.ref p), u14, u15, u16, u17, u18, none]) (i := 14) (j := 15) hy
      cases w15
      have hnl : t.nod.length ≤ 100 := by
        have := ot.len
        omega
      have hin : ∀ {H : Hp} {σ : St} (_ : σ[14]? = some (some x14)) (_ : Dp K H x14 (natsD t.nod)), EvD K (tVar 14) σ H (.tuple ((natI t.nod).map .int)) := fun hσ hx => EvD.is (ed_var hσ hx) (natsD_ints _)
      refine hq _ ?_
      refine s_if (b := t.fin d a b) (EvB.is (eb_and (eb_test (K := K) (ed_op (ed_vari rfl) (ed_vari rfl) ro_eq)) fun _ => eb_and (eb_test (K := K) (ed_op (ed_op (ed_var rfl w14) (ed_neg ed_int) (ro_ixT (at_last t))) (ed_vari rfl) ro_eq)) fun _ => eb_test (K := K) (ed_op (ed_vari rfl) (hin rfl w14) (ro_inT (inV_nats b t.nod)))) ?_) (fun hf Hd ed => ?_) fun hf Hd ed => ?_
      · rw [dec_nat] <;> rfl
      · have w14d := dp_same ed _ _ w14
        have dcd := dp_same ed _ _ dc
        have e1 : (Wk.take (i + 1)).flatMap (fun t => t.nexts R d a b) = (Wk.take i).flatMap fun t => t.nexts R d a b := by
          rw [flat_next ht]
          have e : t.nexts R d a b = [] := if_pos hf
          rw [e, List.append_nil]
        have e2 : (doneOf d a b (Wk.take (i + 1))).foldl better (dueT R d a b k) = better ((doneOf d a b (Wk.take i)).foldl better (dueT R d a b k)) t.nod := by
          rw [doneOf_next ht, if_pos hf, List.foldl_append] <;> rfl
        rw [e1, e2]
        generalize (doneOf d a b (Wk.take i)).foldl better (dueT R d a b k) = m at dcd
        refine s_asg (P := fun v H' => Dp K H' v (dueD (better m t.nod))) ?_ fun x11' He ee hx => ⟨(gc.same ed).same ee, x11', hx, _, _, _, _, _, _, rfl⟩
        cases m with
        | none => exact ep_if (b := true) (EvB.is (eb_or (b := true) (eb_test (K := K) (ed_op (ed_var rfl dcd) ed_non (ro_isN isN_non))) fun z => nomatch z) rfl) (fun _ => ed_var rfl w14d) fun z => nomatch z
        | some m =>
          have hm2 : EvD K (tVar 11) [some (.ref sc), some (.ref rl), some v1, some v3, some (.int (n : Int)), some (.int c), some v6, some (.int (a : Int)), some (.int (b : Int)), some (.int (whole d a b)), some x10, some x11, u12, some (.ref p), some x14, some (.int t.far), u16, u17, u18, none] Hd (.tuple ((natI m).map .int)) := EvD.is (ed_var rfl dcd) (natsD_ints m)
          refine ep_if (b := pLt t.nod m) (EvB.is (eb_or (eb_test (K := K) (ed_op (ed_var rfl dcd) ed_non (ro_isN isN_tup))) fun _ => eb_test (K := K) (ed_op (hin rfl w14d) hm2 ro_ltT)) (Bool.false_or _)) (fun hl => ?_) fun hl => ?_
          · have e : better (some m) t.nod = some t.nod := if_pos hl
            rw [e]
            exact ed_var rfl w14d
          · have e : better (some m) t.nod = some m := if_neg (by show ¬ pLt t.nod m = true; rw [hl]; decide)
            rw [e]
            exact ed_var rfl dcd
      · have hnx : t.nexts R d a b = R.flatMap (t.go d a b) := if_neg (by rw [hf]; decide)
        have e2 : doneOf d a b (Wk.take (i + 1)) = doneOf d a b (Wk.take i) := by
          rw [doneOf_next ht, if_neg (by rw [hf]; decide), List.append_nil]
        rw [e2, flat_next ht, hnx]
        have hdd := dp_same (gc.same ed).2.1 _ _ hdk
        have hbound : ∀ j, ((Wk.take i).flatMap fun t => t.nexts R d a b).length + ((R.take j).flatMap (t.go d a b)).length ≤ 9765625 := fun j => by
          have a1 := flat_take (F := fun t : Trip => t.nexts R d a b) Wk (i + 1)
          rw [flat_next ht, List.length_append, hnx] at a1
          have a2 := flat_take (F := t.go d a b) R j
          omega
        generalize hM : (Wk.take i).flatMap (fun t => t.nexts R d a b) = M at gc hbound
        generalize (doneOf d a b (Wk.take i)).foldl better (dueT R d a b k) = m at dc
        refine s_for (K := K) (H0 := H9) (ei_tupIx (v := v1) rfl hdk rfl) (gc.same ed).2.1 (fun j σ' H' => GL K H9 H' p ((M ++ (R.take j).flatMap (t.go d a b)).map tripD) ∧ Dp K H' x11 (dueD m) ∧ Dp K H' x14 (natsD t.nod) ∧ ∃ u16 u17 u18 : Option V, σ' = [some (.ref sc), some (.ref rl), some v1, some v3, some (.int (n : Int)), some (.int c), some v6, some (.int (a : Int)), some (.int (b : Int)), some (.int (whole d a b)), some x10, some x11, u12, some (.ref p), some x14, some (.int t.far), u16, u17, u18, none])
          (fun He ee => ⟨?_, dp_same (ed.trans ee) _ _ dc, dp_same (ed.trans ee) _ _ w14, _, _, _, rfl⟩) (fun j σ' H' _ z => z.1.2.1) (fun j e z σ' He Hf he2 y ef hz => ?_) fun σ' He y => ?_
        · rw [List.take_zero, List.flatMap_nil, List.append_nil]
          exact gc.same (ed.trans ee)
        · obtain ⟨y1, y2, y3, u16, u17, u18, rfl⟩ := y
          obtain ⟨r, hr', rfl⟩ := roads_get he2
          have gr := W.rd r (List.mem_of_getElem? hr')
          obtain ⟨x16, x17, x18, w16, w17, w18, hq⟩ := g_tup3 (σ := [some (.ref sc), some (.ref rl), some v1, some v3, some (.int (n : Int)), some (.int c), some v6, some (.int (a : Int)), some (.int (b : Int)), some (.int (whole d a b)), some x10, some x11, u12, some (.ref p), some x14, some (.int t.far), u16, u17, u18, none]) (i := 16) (j := 17) (k := 18) hz
          cases w16
          cases w17
          cases w18
          have y1f := y1.same ef
          have y3f := dp_same ef _ _ y3
          have hrf := dp_same y1f.2.1 _ _ hrk
          have hb2 := hbound j
          refine hq _ ?_
          have hcat : ∀ {H : Hp} (_ : Dp K H x14 (natsD t.nod)), EvD K (tOp (rCatA K) (tVar 14) (tTup (tCons (tVar 17) tNil))) [some (.ref sc), some (.ref rl), some v1, some v3, some (.int (n : Int)), some (.int c), some v6, some (.int (a : Int)), some (.int (b : Int)), some (.int (whole d a b)), some x10, some x11, u12, some (.ref p), some x14, some (.int t.far), some (.int (r.1 : Int)), some (.int (r.2.1 : Int)), some (.int r.2.2), none] H (natsD (t.nod ++ [r.2.1])) := fun hx => by
            refine EvD.is (ed_op (ed_var rfl hx) (ed_tup (ds := [.int (r.2.1 : Int)]) (ea_cons (ed_vari rfl) ea_nil) (by simp)) (ro_catT ?_)) ?_
            · rw [List.length_map, List.length_singleton]
              omega
            · unfold natsD
              rw [List.map_append] <;> rfl
          refine s_if (b := t.can d a b r) (EvB.is (eb_and (eb_test (K := K) (ed_op (ed_vari rfl) (ed_op (ed_var rfl y3f) (ed_neg ed_int) (ro_ixT (at_last t))) ro_eq)) fun _ => eb_test (K := K) (ed_op (ed_op (ed_op (ed_vari rfl) (ed_vari rfl) ro_add) (ep_if (P := fun v H' => Dp K H' v (.int (restOf d a b (t.nod ++ [r.2.1]) r.2.1))) (b := decide (b ∈ t.nod ++ [r.2.1])) (eb_test (K := K) (ed_op (ed_vari rfl) (EvD.is (hcat y3f) (natsD_ints _)) (ro_inT (inV_nats b _)))) (fun hi => EvD.is (ed_op (ed_op (ed_var rfl hrf) (ed_vari rfl) (ro_ixL (rows_at gr.2.1))) (ed_vari rfl) (ro_ixL (row_at ha))) ?_)
            fun hi => EvD.is (ed_op (ed_op (ed_op (ed_var rfl hrf) (ed_vari rfl) (ro_ixL (rows_at gr.2.1))) (ed_vari rfl) (ro_ixL (row_at hb))) (ed_op (ed_op (ed_var rfl hrf) (ed_vari rfl) (ro_ixL (rows_at hb))) (ed_vari rfl) (ro_ixL (row_at ha))) ro_add) ?_) ro_add) (ed_vari rfl) ro_eq)) ?_) (fun hcn Hg eg => ?_) fun hcn Hg eg => ?_
          · unfold restOf
            rw [if_pos (of_decide_eq_true hi)]
          · unfold restOf
            rw [if_neg (of_decide_eq_false hi)]
          · rw [dec_nat] <;> rfl
          · have y1g := y1f.same eg
            have y3g := dp_same eg _ _ y3f
            have ego : t.go d a b r = [⟨t.nod, r.2.1, t.far + r.2.2⟩] := if_pos hcn
            refine s_glB (K := K) (d := tripD ⟨t.nod, r.2.1, t.far + r.2.2⟩) rfl y1g (ed_tup (ea_cons (hcat y3g) (ea_cons (ed_op (ed_vari rfl) (ed_vari rfl) ro_add) ea_nil)) (by simp)) (tds_map td_trip) (td_trip _) (by rw [List.length_map, List.length_append]; omega) fun Hh bh gh => ?_
            obtain ⟨_, _, vs, hv, _⟩ := y1g
            have tk := but_lst hv bh
            refine ⟨?_, dp_tk tk _ _ (td_due m) (dp_same (ef.trans eg) _ _ y2), dp_tk tk _ _ (td_nats _) y3g, _, _, _, rfl⟩
            rw [flat_next hr', ego, ← List.append_assoc, List.map_append]
            exact gh
          · have ego : t.go d a b r = [] := if_neg (by rw [hcn]; decide)
            refine ⟨?_, dp_same (ef.trans eg) _ _ y2, dp_same (ef.trans eg) _ _ y3, _, _, _, rfl⟩
            rw [flat_next hr', ego, List.append_nil]
            exact y1.same (ef.trans eg)
        · obtain ⟨y1, y2, y3, u16, u17, u18, rfl⟩ := y
          rw [List.length_map, List.take_length] at y1
          exact ⟨y1, x11, y2, _, _, _, _, _, _, rfl⟩
    · obtain ⟨y1, x11, y2, u12, u14, u15, u16, u17, u18, rfl⟩ := z
      rw [List.length_map, List.take_length] at y1 y2
      refine s_asg (ed_var (K := K) rfl y1.dp) fun v Hd ed hv => ⟨((z1.trans e9).trans y1.2.1).trans ed, v, x11, ?_, ?_, _, _, _, _, _, _, _, rfl⟩
      · rw [eW1]
        exact hv
      · rw [eD1]
        exact dp_same ed _ _ y2
  · obtain ⟨z1, x10, x11, z2, z3, u12, u13, u14, u15, u16, u17, u18, rfl⟩ := z
    rw [rngD_len] at z3
    obtain ⟨m, g1, g2, g3⟩ := due_ring W ha hb
    rw [g1] at z3
    have hd9 := dp_same z1 _ _ hd8
    exact s_ret (ep_call (ea_cons (EvD.is (ep_call (ea_cons (ed_var (K := K) rfl hd9) (ea_cons (ed_vari rfl) (ea_cons (ed_vari rfl) ea_nil))) (spD_of ⟨n, ws, R, d, a, b, W, ha, hb, rings_ne W ha hb, rfl, rfl⟩)) g2) (ea_cons (ed_var rfl z3) ea_nil)) (spD_of ⟨natsD m, it_up (it3_nats (by omega)), rfl, rfl⟩)) fun v H10 e10 p => by
      rw [dp_bl p]
      exact q H10
end
end K7
/-! ### part 16: the program's top -/
namespace K7
open PySem L2
/-- the def st stands at x in the written part -/
def DefIn (K : PySem.W.Frag) (x : Str) (st : Stmt) : Prop := ∃ (f : Addr) (od an : Option Addr) (sl : Array (Option Value)) (oc kV dc pm cd ct : Value),
  PySem.W.nsIn K mainGlobals x = some (some (.ref f)) ∧ K.lookup f = some ⟨oc, od, .func (PySem.W.fnOf x x (defArgs st) (defBody st) (defScope st) .none kV dc pm an cd ct), sl⟩ ∧ PySem.W.codeIn K cd x = true ∧ PySem.W.keepIn K (.ref f) = true
theorem DefIn.make {K : PySem.W.Frag} {x : Str} {st : Stmt} {f : Addr} {od an : Option Addr} {sl : Array (Option Value)} {oc kV dc pm cd ct : Value} (a : PySem.W.nsIn K mainGlobals x = some (some (.ref f))) (l : K.lookup f = some ⟨oc, od, .func (PySem.W.fnOf x x (defArgs st) (defBody st) (defScope st) .none kV dc pm an cd ct), sl⟩)
    (c : PySem.W.codeIn K cd x = true) (k : PySem.W.keepIn K (.ref f) = true) : DefIn K x st := ⟨f, od, an, sl, oc, kV, dc, pm, cd, ct, a, l, c, k⟩
theorem ConIn.make {K : PySem.W.Frag} {x : Str} {i : Int} {t : Tok} (a : PySem.W.nsIn K mainGlobals x = some (some (.int i t))) : ∃ t, PySem.W.nsIn K mainGlobals x = some (some (.int i t)) := ⟨t, a⟩
theorem DefIn.put {K : PySem.W.Frag} {h : Heap} {mg : Str → Option Value} {x : Str} {ps : List Str} {st : Stmt} (X : K.In h) (G : h.Ns mainGlobals mg) (D : DefIn K x st)
    (hb : ∀ (kV doc pm : Value) (an : Option Addr) (cdv ct : Value) (us : List Value), us.length = ps.length → bindArgs (PySem.W.fnOf x x (defArgs st) (defBody st) (defScope st) .none kV doc pm an cdv ct) ⟨us, []⟩ = pure (ps.zip us)) : DefAt K mg x ps st := by
  obtain ⟨f, od, an, sl, oc, kV, dc, pm, cd, ct, a, l, c, k⟩ := D
  have F := fun_mk (st := st) l c k
  exact ⟨⟨f, _, F, PySem.W.mg_of X G a, F.binds hb⟩⟩
structure TopIn (K : PySem.W.Frag) : Prop where
  d0 : DefIn K "is_in" s_isin
  d1 : DefIn K "is_weights" s_isw
  d2 : DefIn K "need_houses" s_nh
  d3 : DefIn K "members" s_mem
  d4 : DefIn K "need_count" s_nc
  d5 : DefIn K "is_way" s_way
  d6 : DefIn K "rows_there" s_rt
  d7 : DefIn K "need_oneway" s_now
  d8 : DefIn K "least_told" s_lt
  d9 : DefIn K "best_out" s_bo
  d10 : DefIn K "best_in" s_bi
  d11 : DefIn K "round_in" s_ri
  d12 : DefIn K "round_sum" s_rs
  d13 : DefIn K "best_round" s_br
  d14 : DefIn K "round_ring" s_rr
  d15 : DefIn K "rings_of" s_ro
  d16 : DefIn K "all_ways" s_aw
  d17 : DefIn K "_law_taken" s_tk
  d18 : DefIn K "_law_order" s_or
  d19 : DefIn K "_law_pick" s_pk
  d20 : DefIn K "_law_oneway" s_ow
  d21 : DefIn K "_law_rows_there" s_lr
  d22 : DefIn K "_law_sets" s_se
  d23 : DefIn K "_law_alike" s_al
  z_isinstance : PySem.W.nsIn K mainGlobals "isinstance" = some none
  z_int : PySem.W.nsIn K mainGlobals "int" = some none
  z_bool : PySem.W.nsIn K mainGlobals "bool" = some none
  z_tuple : PySem.W.nsIn K mainGlobals "tuple" = some none
  z_list : PySem.W.nsIn K mainGlobals "list" = some none
  z_str : PySem.W.nsIn K mainGlobals "str" = some none
  z_set : PySem.W.nsIn K mainGlobals "set" = some none
  z_sorted : PySem.W.nsIn K mainGlobals "sorted" = some none
  z_len : PySem.W.nsIn K mainGlobals "len" = some none
  z_sum : PySem.W.nsIn K mainGlobals "sum" = some none
  z_min : PySem.W.nsIn K mainGlobals "min" = some none
  z_range : PySem.W.nsIn K mainGlobals "range" = some none
  z_enumerate : PySem.W.nsIn K mainGlobals "enumerate" = some none
  z_zip : PySem.W.nsIn K mainGlobals "zip" = some none
  z_c8 : ∃ t, PySem.W.nsIn K mainGlobals "MOST_POINTS" = some (some (.int 8 t))
  z_cw : ∃ t, PySem.W.nsIn K mainGlobals "MOST_WEIGHT" = some (some (.int 100 t))
  z_cl : ∃ t, PySem.W.nsIn K mainGlobals "MOST_LENGTH" = some (some (.int 100 t))
  z_c20 : ∃ t, PySem.W.nsIn K mainGlobals "MOST_WAYS" = some (some (.int 20 t))
theorem all_mk {l : PySem.W.OpenLaw} {w : World} {K : PySem.W.Frag} {h : Heap} {mg : Str → Option Value} {fa f1 : Addr} (X : K.In h) (G : h.Ns mainGlobals mg) (hfa : mg "law" = some (.ref fa)) {od1 an1 : Option Addr} {sl1 : Array (Option Value)} {oc1 kV1 dc1 pm1 cd1 ct1 : Value}
    (a1 : PySem.W.nsIn K mainGlobals "law" = some (some (.ref f1))) (l1 : K.lookup f1 = some ⟨oc1, od1, .func (PySem.W.fnOf "law" "law" (defArgs s_law) (defBody s_law) (defScope s_law) .none kV1 dc1 pm1 an1 cd1 ct1), sl1⟩) (c1 : PySem.W.codeIn K cd1 "law" = true) (k1 : PySem.W.keepIn K (.ref f1) = true)
    (S : TopIn K) :
    ∃ fd : FuncData, (∀ (s : Shared) (v : Value), BindsTo s fd ⟨[v], []⟩ [("_law_script", v)]) ∧ ∀ base : Heap, K.In base → base.Ns mainGlobals mg → FnOk l.prog w K mg base CX0 9 fa fd ["_law_script"] (spLaw K) := by
  have e := hfa.symm.trans (PySem.W.mg_of X G a1)
  cases e
  have FL := fun_mk (st := s_law) l1 c1 k1
  have T : TB mg := ⟨PySem.W.mg_none_of X G S.z_isinstance, PySem.W.mg_none_of X G S.z_int, PySem.W.mg_none_of X G S.z_bool, PySem.W.mg_none_of X G S.z_tuple, PySem.W.mg_none_of X G S.z_list, PySem.W.mg_none_of X G S.z_str, PySem.W.mg_none_of X G S.z_set, PySem.W.mg_none_of X G S.z_sorted, PySem.W.mg_none_of X G S.z_len, PySem.W.mg_none_of X G S.z_sum, PySem.W.mg_none_of X G S.z_min, PySem.W.mg_none_of X G S.z_range, PySem.W.mg_none_of X G S.z_enumerate, PySem.W.mg_none_of X G S.z_zip, S.z_c8.imp fun _ z => PySem.W.mg_of X G z, S.z_cw.imp fun _ z => PySem.W.mg_of X G z, S.z_cl.imp fun _ z => PySem.W.mg_of X G z, S.z_c20.imp fun _ z => PySem.W.mg_of X G z⟩
  have D0 : DefAt K mg "is_in" ["value", "least", "most"] s_isin := S.d0.put X G fun _ _ _ _ _ _ us hl => match us, hl with | [_, _, _], _ => rfl
  have D1 : DefAt K mg "is_weights" ["value"] s_isw := S.d1.put X G fun _ _ _ _ _ _ us hl => match us, hl with | [_], _ => rfl
  have D2 : DefAt K mg "need_houses" ["web", "houses"] s_nh := S.d2.put X G fun _ _ _ _ _ _ us hl => match us, hl with | [_, _], _ => rfl
  have D3 : DefAt K mg "members" ["number", "count"] s_mem := S.d3.put X G fun _ _ _ _ _ _ us hl => match us, hl with | [_, _], _ => rfl
  have D4 : DefAt K mg "need_count" ["web", "count"] s_nc := S.d4.put X G fun _ _ _ _ _ _ us hl => match us, hl with | [_, _], _ => rfl
  have D5 : DefAt K mg "is_way" ["value", "count"] s_way := S.d5.put X G fun _ _ _ _ _ _ us hl => match us, hl with | [_, _], _ => rfl
  have D6 : DefAt K mg "rows_there" ["oneway"] s_rt := S.d6.put X G fun _ _ _ _ _ _ us hl => match us, hl with | [_], _ => rfl
  have D7 : DefAt K mg "need_oneway" ["oneway"] s_now := S.d7.put X G fun _ _ _ _ _ _ us hl => match us, hl with | [_], _ => rfl
  have D8 : DefAt K mg "least_told" ["sums"] s_lt := S.d8.put X G fun _ _ _ _ _ _ us hl => match us, hl with | [_], _ => rfl
  have D9 : DefAt K mg "best_out" ["oneway"] s_bo := S.d9.put X G fun _ _ _ _ _ _ us hl => match us, hl with | [_], _ => rfl
  have D10 : DefAt K mg "best_in" ["oneway"] s_bi := S.d10.put X G fun _ _ _ _ _ _ us hl => match us, hl with | [_], _ => rfl
  have D11 : DefAt K mg "round_in" ["oneway", "rows", "houses"] s_ri := S.d11.put X G fun _ _ _ _ _ _ us hl => match us, hl with | [_, _, _], _ => rfl
  have D12 : DefAt K mg "round_sum" ["oneway", "houses"] s_rs := S.d12.put X G fun _ _ _ _ _ _ us hl => match us, hl with | [_, _], _ => rfl
  have D13 : DefAt K mg "best_round" ["oneway", "count"] s_br := S.d13.put X G fun _ _ _ _ _ _ us hl => match us, hl with | [_, _], _ => rfl
  have D14 : DefAt K mg "round_ring" ["oneway", "a", "b"] s_rr := S.d14.put X G fun _ _ _ _ _ _ us hl => match us, hl with | [_, _, _], _ => rfl
  have D15 : DefAt K mg "rings_of" ["oneway", "rows", "a", "b"] s_ro := S.d15.put X G fun _ _ _ _ _ _ us hl => match us, hl with | [_, _, _, _], _ => rfl
  have D16 : DefAt K mg "all_ways" ["oneway", "rows", "a", "b"] s_aw := S.d16.put X G fun _ _ _ _ _ _ us hl => match us, hl with | [_, _, _, _], _ => rfl
  have D17 : DefAt K mg "_law_taken" ["_law_row", "_law_many"] s_tk := S.d17.put X G fun _ _ _ _ _ _ us hl => match us, hl with | [_, _], _ => rfl
  have D18 : DefAt K mg "_law_order" ["_law_row", "_law_many"] s_or := S.d18.put X G fun _ _ _ _ _ _ us hl => match us, hl with | [_, _], _ => rfl
  have D19 : DefAt K mg "_law_pick" ["_law_row", "_law_things"] s_pk := S.d19.put X G fun _ _ _ _ _ _ us hl => match us, hl with | [_, _], _ => rfl
  have D20 : DefAt K mg "_law_oneway" ["_law_row", "_law_most"] s_ow := S.d20.put X G fun _ _ _ _ _ _ us hl => match us, hl with | [_, _], _ => rfl
  have D21 : DefAt K mg "_law_rows_there" ["_law_oneway_here"] s_lr := S.d21.put X G fun _ _ _ _ _ _ us hl => match us, hl with | [_], _ => rfl
  have D22 : DefAt K mg "_law_sets" ["_law_count"] s_se := S.d22.put X G fun _ _ _ _ _ _ us hl => match us, hl with | [_], _ => rfl
  have D23 : DefAt K mg "_law_alike" ["_law_found", "_law_due"] s_al := S.d23.put X G fun _ _ _ _ _ _ us hl => match us, hl with | [_, _], _ => rfl
  refine ⟨PySem.W.fnOf "law" "law" (defArgs s_law) (defBody s_law) (defScope s_law) .none kV1 dc1 pm1 an1 cd1 ct1, fun s v => .of_eq rfl, fun base _ _ => ?_⟩
  have CI := c_isin (P := l.prog) (w := w) (base := base) T D0
  have CW := c_isw (P := l.prog) (w := w) (base := base) T CI D1
  have CNH := c_nh (P := l.prog) (w := w) (base := base) T CI D2
  have CM := c_mem (P := l.prog) (w := w) (base := base) T D3
  have CNC := c_nc (P := l.prog) (w := w) (base := base) T CI D4
  have CY := c_way (P := l.prog) (w := w) (base := base) T CI D5
  have CRT := c_rt (P := l.prog) (w := w) (base := base) T D6
  have CNO := c_no (P := l.prog) (w := w) (base := base) T CW CY CRT D7
  have CLT := c_lt (P := l.prog) (w := w) (base := base) T D8
  have CBO := c_bo (P := l.prog) (w := w) (base := base) T CNO CRT CLT D9
  have CBI := c_bi (P := l.prog) (w := w) (base := base) T CNO CRT CLT D10
  have CRI := c_ri (P := l.prog) (w := w) (base := base) T D11
  have CRS := c_rs (P := l.prog) (w := w) (base := base) T CNO CNH CRT CRI D12
  have CBR := c_br (P := l.prog) (w := w) (base := base) T CNO CNC CRT CM CRI D13
  have CAW := fun f => c_aw (P := l.prog) (w := w) (base := base) T D16 f
  have CRO := c_ro (P := l.prog) (w := w) (base := base) T CAW D15
  have CRR := c_rr (P := l.prog) (w := w) (base := base) T CNO CI CRT CRO D14
  have CT := c_tk (P := l.prog) (w := w) (base := base) T D17
  have CO := c_or (P := l.prog) (w := w) (base := base) T CT D18
  have CP := c_pk (P := l.prog) (w := w) (base := base) T CT D19
  have COW := c_ow (P := l.prog) (w := w) (base := base) T CT CO CP D20
  have CLR := c_lr (P := l.prog) (w := w) (base := base) T D21
  have CSE := c_se (P := l.prog) (w := w) (base := base) T D22
  have CAL := c_al (P := l.prog) (w := w) (base := base) T D23 3
  exact c_law T CT COW CLR CSE CAL CRS CBR CBI CBO CRR FL
theorem walk {l : PySem.W.OpenLaw} {q : Program} {loose : List Str} {XP : (Str → Option Value) → Heap → Prop} {YP : World → Heap → Prop} {d : DefRec} {K : Params → PySem.W.Frag} (hn : l.most = some 63) (hdf : d.params.defaults = [])
    (hY : ∀ (w : World) (h : Heap), YP w h → (K w.params).In h)
    (F : ∀ (w : World) (mg : Str → Option Value) (fa : Addr) (h : Heap), (K w.params).In h → h.Ns mainGlobals mg → mg d.name = some (.ref fa) →
      ∃ fd : FuncData, (∀ (s : Shared) (u : Value), BindsTo s fd ⟨[u], []⟩ [("_law_script", u)]) ∧ ∀ base : Heap, (K w.params).In base → base.Ns mainGlobals mg → FnOk l.prog w (K w.params) mg base CX0 9 fa fd ["_law_script"] (spLaw (K w.params))) :
    PySem.W.WalkO q loose XP YP l.row.toRowW d [] (fun f vs => PySem.call f vs) :=
  L2.walk_of (n := 63) (k := 9) (x := "_law_script") (CX := fun _ => CX0) (sp := fun w => spLaw (K w.params)) hn (by decide) hdf ⟨rfl, by decide, by decide⟩ hY F (fun _ _ a ns hl _ hS => ⟨a, ns, rfl, hS, hl, fun _ => rfl⟩) fun _ _ _ _ _ z => z
end K7
open PySem PySem.W PyProof.Rows
set_option maxRecDepth 100000 in
set_option maxHeartbeats 0 in
theorem PySem.Challenge.cw_nearhouses_k78_whole_best_rounds_holds : PySem.Challenge.rw_nearhouses_k78_whole_best_rounds.Holds := by
  w_on; o_law; k_head; (case hw => w_witness2)
  k_fill
  refine K7.walk (l := PySem.Challenge.rw_nearhouses_k78_whole_best_rounds) rfl rfl (fun w h Y => PySem.W.kIn_of Y) ?F
  case F =>
    intro w mg fa h KX G hmg
    refine' K7.all_mk KX G hmg ?a1 ?l1 ?c1 ?k1 ?S
    (case a1 => k_is); (case l1 => k_is); (case c1 => k_is); (case k1 => k_is)
    refine K7.TopIn.mk ?d0 ?d1 ?d2 ?d3 ?d4 ?d5 ?d6 ?d7 ?d8 ?d9 ?d10 ?d11 ?d12 ?d13 ?d14 ?d15 ?d16 ?d17 ?d18 ?d19 ?d20 ?d21 ?d22 ?d23 ?z0 ?z1 ?z2 ?z3 ?z4 ?z5 ?z6 ?z7 ?z8 ?z9 ?z10 ?z11 ?z12 ?z13 ?z14 ?z15 ?z16 ?z17
    case d0 =>
      refine' K7.DefIn.make ?a ?l ?c ?k
      (case a => k_is); (case l => k_is); (case c => k_is); (case k => k_is)
    case d1 =>
      refine' K7.DefIn.make ?a ?l ?c ?k
      (case a => k_is); (case l => k_is); (case c => k_is); (case k => k_is)
    case d2 =>
      refine' K7.DefIn.make ?a ?l ?c ?k
      (case a => k_is); (case l => k_is); (case c => k_is); (case k => k_is)
    case d3 =>
      refine' K7.DefIn.make ?a ?l ?c ?k
      (case a => k_is); (case l => k_is); (case c => k_is); (case k => k_is)
    case d4 =>
      refine' K7.DefIn.make ?a ?l ?c ?k
      (case a => k_is); (case l => k_is); (case c => k_is); (case k => k_is)
    case d5 =>
      refine' K7.DefIn.make ?a ?l ?c ?k
      (case a => k_is); (case l => k_is); (case c => k_is); (case k => k_is)
    case d6 =>
      refine' K7.DefIn.make ?a ?l ?c ?k
      (case a => k_is); (case l => k_is); (case c => k_is); (case k => k_is)
    case d7 =>
      refine' K7.DefIn.make ?a ?l ?c ?k
      (case a => k_is); (case l => k_is); (case c => k_is); (case k => k_is)
    case d8 =>
      refine' K7.DefIn.make ?a ?l ?c ?k
      (case a => k_is); (case l => k_is); (case c => k_is); (case k => k_is)
    case d9 =>
      refine' K7.DefIn.make ?a ?l ?c ?k
      (case a => k_is); (case l => k_is); (case c => k_is); (case k => k_is)
    case d10 =>
      refine' K7.DefIn.make ?a ?l ?c ?k
      (case a => k_is); (case l => k_is); (case c => k_is); (case k => k_is)
    case d11 =>
      refine' K7.DefIn.make ?a ?l ?c ?k
      (case a => k_is); (case l => k_is); (case c => k_is); (case k => k_is)
    case d12 =>
      refine' K7.DefIn.make ?a ?l ?c ?k
      (case a => k_is); (case l => k_is); (case c => k_is); (case k => k_is)
    case d13 =>
      refine' K7.DefIn.make ?a ?l ?c ?k
      (case a => k_is); (case l => k_is); (case c => k_is); (case k => k_is)
    case d14 =>
      refine' K7.DefIn.make ?a ?l ?c ?k
      (case a => k_is); (case l => k_is); (case c => k_is); (case k => k_is)
    case d15 =>
      refine' K7.DefIn.make ?a ?l ?c ?k
      (case a => k_is); (case l => k_is); (case c => k_is); (case k => k_is)
    case d16 =>
      refine' K7.DefIn.make ?a ?l ?c ?k
      (case a => k_is); (case l => k_is); (case c => k_is); (case k => k_is)
    case d17 =>
      refine' K7.DefIn.make ?a ?l ?c ?k
      (case a => k_is); (case l => k_is); (case c => k_is); (case k => k_is)
    case d18 =>
      refine' K7.DefIn.make ?a ?l ?c ?k
      (case a => k_is); (case l => k_is); (case c => k_is); (case k => k_is)
    case d19 =>
      refine' K7.DefIn.make ?a ?l ?c ?k
      (case a => k_is); (case l => k_is); (case c => k_is); (case k => k_is)
    case d20 =>
      refine' K7.DefIn.make ?a ?l ?c ?k
      (case a => k_is); (case l => k_is); (case c => k_is); (case k => k_is)
    case d21 =>
      refine' K7.DefIn.make ?a ?l ?c ?k
      (case a => k_is); (case l => k_is); (case c => k_is); (case k => k_is)
    case d22 =>
      refine' K7.DefIn.make ?a ?l ?c ?k
      (case a => k_is); (case l => k_is); (case c => k_is); (case k => k_is)
    case d23 =>
      refine' K7.DefIn.make ?a ?l ?c ?k
      (case a => k_is); (case l => k_is); (case c => k_is); (case k => k_is)
    (case z0 => k_is)
    (case z1 => k_is)
    (case z2 => k_is)
    (case z3 => k_is)
    (case z4 => k_is)
    (case z5 => k_is)
    (case z6 => k_is)
    (case z7 => k_is)
    (case z8 => k_is)
    (case z9 => k_is)
    (case z10 => k_is)
    (case z11 => k_is)
    (case z12 => k_is)
    (case z13 => k_is)
    case z14 =>
      refine' K7.ConIn.make ?a
      (case a => k_is)
    case z15 =>
      refine' K7.ConIn.make ?a
      (case a => k_is)
    case z16 =>
      refine' K7.ConIn.make ?a
      (case a => k_is)
    case z17 =>
      refine' K7.ConIn.make ?a
      (case a => k_is)
