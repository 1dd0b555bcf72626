import PyProof.Rows.All
import Wide.All
import OpenK.AllK
import Wide.FinOn
import PyProof.EqAt
import PyProof.EqKinds
import PyProof.TupleCall
import KE.KStateDown
import HandS.Base
import HandS.Call
import HandS.List
import HandS.Comp
import HandS.Ends
import HandS.Dict
import HandS.Iter
import HandS.Text
import HandS.Exc
import HandS.TryOnly
import HandS.TryMany
import HandS.ExcOwn
import HandS.More
import HandS.Words
import HandS.WordsList
import HandS.WordsDict
import HandS.WordsExc
import HandS.Flow
import HandS.Style
import HandS.IsInst
import HandS.Conv
import HandS.TupMul
import HandS.TupAny
import HandS.TupSets
import HandS.Defaults
import HandS.Head0
import HandS.Head1
import HandS.Head2
import HandS.HeadEnd
import HandS.HeadHook1
import HandS.HeadHook2
import HandS.HeadHook3
import HandS.HeadHook4
import HandS.CallSlots
import PySem.Challenge.RW_millshelf_k02_recipes
set_option Elab.async false
set_option linter.all false
set_option maxRecDepth 100000
set_option maxHeartbeats 4000000
/-! Ml: data over the layer: what an expression evaluates to, as a datum; nothing that stood is changed. -/
namespace Ml
open PySem PySem.Spec PyProof.Rows L2
abbrev Fr := PySem.W.Frag
/-! ### data and heaps that grow -/
theorem Rd.same {H H' : Hp} {a : Addr} {u : HO} (s : Same H H') (h : Rd H a u) : Rd H' a u := by
  rcases h with h | ⟨o, h⟩
  · exact Or.inl (s a _ h)
  · exact Or.inr ⟨o, s a _ h⟩
theorem sqL_same {K : Fr} {H H' : Hp} {a : Addr} {xs : List V} (s : Same H H') (h : SqL K H a xs) : SqL K H' a xs := by
  rcases h with h | h
  · exact Or.inl (Rd.same s h)
  · exact Or.inr h
theorem sqT_same {K : Fr} {H H' : Hp} {a : Addr} {xs : List V} (s : Same H H') (h : SqT K H a xs) : SqT K H' a xs := by
  rcases h with h | h
  · exact Or.inl (Rd.same s h)
  · exact Or.inr h
mutual
theorem dp_same {K : Fr} {H H' : Hp} (s : Same H H') : ∀ (d : PyData) (v : V), Dp K H v d → Dp K H' v d
  | .none, _, h => by cases h; exact .non
  | .bool b, _, h => by cases h; exact .bl b
  | .int i, _, h => by cases h; exact .int i
  | .str x, _, h => by cases h; exact .str x
  | .list ds, _, h => by
    cases h with
    | lst hs ha => exact .lst (sqL_same s hs) (dpA_same s ds _ ha)
  | .tuple ds, _, h => by
    cases h with
    | tup hs ha => exact .tup (sqT_same s hs) (dpA_same s ds _ ha)
  | .dict _, _, h => by cases h
theorem dpA_same {K : Fr} {H H' : Hp} (s : Same H H') : ∀ (ds : List PyData) (vs : List V), DpAll K H vs ds → DpAll K H' vs ds
  | [], _, h => by cases h; exact .nil
  | d :: ds, _, h => by
    cases h with
    | cons h1 h2 => exact .cons (dp_same s d _ h1) (dpA_same s ds _ h2)
end
/-- no list within: it stands whatever is written to -/
def KeepT (K : Fr) (H H' : Hp) : Prop := ∀ a xs, SqT K H a xs → SqT K H' a xs
mutual
def imm : PyData → Bool
  | .none => true
  | .bool _ => true
  | .int _ => true
  | .str _ => true
  | .list _ => false
  | .tuple ds => immAll ds
  | .dict _ => false
def immAll : List PyData → Bool
  | [] => true
  | d :: ds => imm d && immAll ds
end
mutual
theorem dp_keep {K : Fr} {H H' : Hp} (s : KeepT K H H') : ∀ (d : PyData) (v : V), imm d = true → Dp K H v d → Dp K H' v d
  | .none, _, _, h => by cases h; exact .non
  | .bool b, _, _, h => by cases h; exact .bl b
  | .int i, _, _, h => by cases h; exact .int i
  | .str x, _, _, h => by cases h; exact .str x
  | .list ds, _, i, h => by cases i
  | .tuple ds, _, i, h => by
    cases h with
    | tup hs ha => exact .tup (s _ _ hs) (dpA_keep s ds _ i ha)
  | .dict _, _, _, h => by cases h
theorem dpA_keep {K : Fr} {H H' : Hp} (s : KeepT K H H') : ∀ (ds : List PyData) (vs : List V), immAll ds = true → DpAll K H vs ds → DpAll K H' vs ds
  | [], _, _, h => by cases h; exact .nil
  | d :: ds, _, i, h => by
    have i2 : imm d = true ∧ immAll ds = true := Bool.and_eq_true_iff.mp i
    cases h with
    | cons h1 h2 => exact .cons (dp_keep s d _ i2.1 h1) (dpA_keep s ds _ i2.2 h2)
end
theorem keepT_lst {K : Fr} {H : Hp} {D : Addr} {xs ys : List V} (h : H D = some (.lst xs)) : KeepT K H (upd H D (.lst ys)) := fun a zs q => by
  rcases q with (q | ⟨o, q⟩) | q
  · exact .inl (.inl (by rw [upd_ne (by rintro rfl; rw [h] at q; cases q)]; exact q))
  · exact .inl (.inr ⟨o, by rw [upd_ne (by rintro rfl; rw [h] at q; cases q)]; exact q⟩)
  · exact .inr q
theorem keepT_same {K : Fr} {H H' : Hp} (s : Same H H') : KeepT K H H' := fun _ _ q => sqT_same s q
theorem KeepT.trans {K : Fr} {H H1 H2 : Hp} (a : KeepT K H H1) (b : KeepT K H1 H2) : KeepT K H H2 := fun c xs q => b c xs (a c xs q)
theorem Same.new {H : Hp} {p : Addr} {o : HO} (h : H p = none) : Same H (upd H p o) := fun a u e => by
  rw [upd_ne (ne_of_none e h)]
  exact e
theorem Same.mut {H H' : Hp} {p : Addr} {o : HO} (e : Same H H') (h : H p = none) : Same H (upd H' p o) := fun a u ha => by
  rw [upd_ne (ne_of_none ha h)]
  exact e a u ha
theorem dpA_len {K : Fr} {H : Hp} : ∀ {vs : List V} {ds : List PyData}, DpAll K H vs ds → vs.length = ds.length
  | [], [], _ => rfl
  | [], _ :: _, h => by cases h
  | _ :: _, [], h => by cases h
  | _ :: vs, _ :: ds, h => by
    cases h with
    | cons _ h2 => rw [List.length_cons, List.length_cons, dpA_len h2]
theorem dpA_get {K : Fr} {H : Hp} : ∀ {vs : List V} {ds : List PyData} {i : Nat} {d : PyData}, DpAll K H vs ds → ds[i]? = some d → ∃ v, vs[i]? = some v ∧ Dp K H v d
  | [], [], _, _, _, e => by simp at e
  | [], _ :: _, _, _, h, _ => by cases h
  | _ :: _, [], _, _, h, _ => by cases h
  | v :: vs, d :: ds, 0, _, h, e => by
    cases h with
    | cons h1 _ =>
      have e2 : d = _ := Option.some.inj e
      subst e2
      exact ⟨v, rfl, h1⟩
  | _ :: vs, _ :: ds, i + 1, _, h, e => by
    cases h with
    | cons _ h2 =>
      obtain ⟨v, q1, q2⟩ := dpA_get (i := i) h2 (by simpa using e)
      exact ⟨v, by simpa using q1, q2⟩
theorem dpA_getV {K : Fr} {H : Hp} : ∀ {vs : List V} {ds : List PyData} {i : Nat} {v : V}, DpAll K H vs ds → vs[i]? = some v → ∃ d, ds[i]? = some d ∧ Dp K H v d
  | [], [], _, _, _, e => by simp at e
  | [], _ :: _, _, _, h, _ => by cases h
  | _ :: _, [], _, _, h, _ => by cases h
  | v :: vs, d :: ds, 0, _, h, e => by
    cases h with
    | cons h1 _ =>
      have e2 : v = _ := Option.some.inj e
      subst e2
      exact ⟨d, rfl, h1⟩
  | _ :: vs, _ :: ds, i + 1, _, h, e => by
    cases h with
    | cons _ h2 =>
      obtain ⟨v, q1, q2⟩ := dpA_getV (i := i) h2 (by simpa using e)
      exact ⟨v, by simpa using q1, q2⟩
theorem dpA_app {K : Fr} {H : Hp} : ∀ {vs ws : List V} {ds es : List PyData}, DpAll K H vs ds → DpAll K H ws es → DpAll K H (vs ++ ws) (ds ++ es)
  | [], _, [], _, _, h => h
  | [], _, _ :: _, _, h, _ => by cases h
  | _ :: _, _, [], _, h, _ => by cases h
  | _ :: vs, _, _ :: ds, _, h, k => by
    cases h with
    | cons h1 h2 => exact .cons h1 (dpA_app h2 k)
theorem dpA_drop {K : Fr} {H : Hp} : ∀ {vs : List V} {ds : List PyData} (n : Nat), DpAll K H vs ds → DpAll K H (vs.drop n) (ds.drop n)
  | _, _, 0, h => h
  | [], [], _ + 1, _ => .nil
  | [], _ :: _, _, h => by cases h
  | _ :: _, [], _, h => by cases h
  | _ :: vs, _ :: ds, n + 1, h => by
    cases h with
    | cons _ h2 => exact dpA_drop n h2
theorem dpA_take {K : Fr} {H : Hp} : ∀ {vs : List V} {ds : List PyData} (n : Nat), DpAll K H vs ds → DpAll K H (vs.take n) (ds.take n)
  | _, _, 0, h => .nil
  | [], [], _ + 1, _ => .nil
  | [], _ :: _, _, h => by cases h
  | _ :: _, [], _, h => by cases h
  | _ :: vs, _ :: ds, n + 1, h => by
    cases h with
    | cons h1 h2 => exact .cons h1 (dpA_take n h2)
/-! ### what is evaluated -/
section
variable {K : Fr} {σ : L2.St} {H : Hp}
/-- to a datum -/
def EI (K : Fr) (te : TE) (σ : L2.St) (H : Hp) (d : PyData) : Prop := ∀ H1, Same H H1 → ∀ Q : VK, (∀ v H2, Same H1 H2 → Dp K H2 v d → Q v H2) → te σ H1 Q
/-- items of a new list, whatever it is made to hold later -/
def DpL (K : Fr) (H : Hp) (p : Addr) (vs : List V) (ds : List PyData) : Prop := DpAll K H vs ds ∧ ∀ ys, DpAll K (upd H p (.lst ys)) vs ds
/-- to a new list of data -/
def EL (K : Fr) (te : TE) (σ : L2.St) (H : Hp) (ds : List PyData) : Prop := ∀ H1, Same H H1 → ∀ Q : VK, (∀ p vs H2, Same H1 H2 → H1 p = none → H2 p = some (.lst vs) → DpL K H2 p vs ds → Q (.ref p) H2) → te σ H1 Q
def ET (K : Fr) (tt : TT) (σ : L2.St) (H : Hp) (b : Bool) : Prop := ∀ H1, Same H H1 → ∀ Q : Bool → Hp → Prop, (∀ H2, Same H1 H2 → Q b H2) → tt σ H1 Q
def EA (K : Fr) (ta : TA) (σ : L2.St) (H : Hp) (ds : List PyData) : Prop := ∀ H1, Same H H1 → ∀ Q : List V → Hp → Prop, (∀ vs H2, Same H1 H2 → DpAll K H2 vs ds → Q vs H2) → ta σ H1 Q
variable {ta tb tc te : TE} {t u : TT} {d e f : PyData} {ds : List PyData}
theorem EI.mono {H' : Hp} (s : Same H H') (h : EI K te σ H d) : EI K te σ H' d := fun H1 a Q q => h H1 (s.trans a) Q q
theorem ET.mono {H' : Hp} {b : Bool} (s : Same H H') (h : ET K t σ H b) : ET K t σ H' b := fun H1 a Q q => h H1 (s.trans a) Q q
theorem EL.mono {H' : Hp} (s : Same H H') (h : EL K te σ H ds) : EL K te σ H' ds := fun H1 a Q q => h H1 (s.trans a) Q q
theorem EA.mono {H' : Hp} {ta : TA} (s : Same H H') (h : EA K ta σ H ds) : EA K ta σ H' ds := fun H1 a Q q => h H1 (s.trans a) Q q
theorem EI.of_eq (h : EI K te σ H d) (q : d = e) : EI K te σ H e := q ▸ h
theorem ET.of_eq {a b : Bool} (h : ET K t σ H a) (q : a = b) : ET K t σ H b := q ▸ h
theorem EL.of_eq {es : List PyData} (h : EL K te σ H ds) (q : ds = es) : EL K te σ H es := q ▸ h
theorem EL.ei (h : EL K te σ H ds) : EI K te σ H (.list ds) := fun H1 s Q q => h H1 s Q fun p vs H2 s2 _ hp ha => q _ H2 s2 (.lst (SqL.of hp) ha.1)
theorem ei_var {i : Nat} {v : V} (h : σ[i]? = some (some v)) (hd : Dp K H v d) : EI K (tVar i) σ H d := fun H1 s _ q => ⟨v, h, q v H1 (Same.refl H1) (dp_same s d v hd)⟩
theorem ei_c {v : V} (h : ∀ H, Dp K H v d) : EI K (tC v) σ H d := fun H1 _ _ q => q v H1 (Same.refl H1) (h H1)
theorem ei_int {i : Int} : EI K (tC (.int i)) σ H (.int i) := ei_c fun _ => .int i
theorem ei_bl {b : Bool} : EI K (tC (.bl b)) σ H (.bool b) := ei_c fun _ => .bl b
theorem ei_str {x : Str} : EI K (tC (.str x)) σ H (.str x) := ei_c fun _ => .str x
theorem ei_non : EI K (tC .non) σ H .none := ei_c fun _ => .non
theorem ei_op {r : R2} (ha : EI K ta σ H d) (hb : EI K tb σ H e) (hr : ∀ x y H1, Same H H1 → Dp K H1 x d → Dp K H1 y e → ∀ Q : VK, (∀ v H2, Same H1 H2 → Dp K H2 v f → Q v H2) → r x y H1 Q) : EI K (tOp r ta tb) σ H f := fun H1 s Q q =>
  ha H1 s _ fun x H2 s2 hx => hb H2 (s.trans s2) _ fun y H3 s3 hy => hr x y H3 ((s.trans s2).trans s3) (dp_same s3 d x hx) hy Q fun v H4 s4 hv => q v H4 ((s2.trans s3).trans s4) hv
theorem ei_un {r : V → Hp → VK → Prop} (ha : EI K ta σ H d) (hr : ∀ x H1, Same H H1 → Dp K H1 x d → ∀ Q : VK, (∀ v H2, Same H1 H2 → Dp K H2 v f → Q v H2) → r x H1 Q) : EI K (tUn r ta) σ H f := fun H1 s Q q =>
  ha H1 s _ fun x H2 s2 hx => hr x H2 (s.trans s2) hx Q fun v H4 s4 hv => q v H4 (s2.trans s4) hv
theorem dp_int {v : V} {i : Int} (h : Dp K H v (.int i)) : v = .int i := by cases h; rfl
theorem dp_str {v : V} {x : Str} (h : Dp K H v (.str x)) : v = .str x := by cases h; rfl
theorem dp_bl {v : V} {b : Bool} (h : Dp K H v (.bool b)) : v = .bl b := by cases h; rfl
theorem dp_non {v : V} (h : Dp K H v .none) : v = .non := by cases h; rfl
theorem dp_tup {v : V} (h : Dp K H v (.tuple ds)) : ∃ a xs, v = .ref a ∧ SqT K H a xs ∧ DpAll K H xs ds := by
  cases h with
  | tup hs ha => exact ⟨_, _, rfl, hs, ha⟩
theorem dp_lst {v : V} (h : Dp K H v (.list ds)) : ∃ a xs, v = .ref a ∧ SqL K H a xs ∧ DpAll K H xs ds := by
  cases h with
  | lst hs ha => exact ⟨_, _, rfl, hs, ha⟩
theorem ei_I0 {g : Int → Int → V} {i j : Int} (ha : EI K ta σ H (.int i)) (hb : EI K tb σ H (.int j)) (hf : ∀ H2, Dp K H2 (g i j) f) : EI K (tOp (rI0 g) ta tb) σ H f :=
  ei_op ha hb fun x y H1 _ hx hy Q q => ⟨i, j, dp_int hx, dp_int hy, q _ H1 (Same.refl H1) (hf H1)⟩
theorem ei_I {C : Int → Int → Prop} {g : Int → Int → V} {i j : Int} (ha : EI K ta σ H (.int i)) (hb : EI K tb σ H (.int j)) (hc : C i j) (hf : ∀ H2, Dp K H2 (g i j) f) : EI K (tOp (rI C g) ta tb) σ H f :=
  ei_op ha hb fun x y H1 _ hx hy Q q => ⟨i, j, dp_int hx, dp_int hy, hc, q _ H1 (Same.refl H1) (hf H1)⟩
theorem ei_add {i j : Int} (ha : EI K ta σ H (.int i)) (hb : EI K tb σ H (.int j)) : EI K (tOp (rI0 fun i j => .int (i + j)) ta tb) σ H (.int (i + j)) := ei_I0 ha hb fun _ => .int _
theorem ei_sub {i j : Int} (ha : EI K ta σ H (.int i)) (hb : EI K tb σ H (.int j)) : EI K (tOp (rI0 fun i j => .int (i - j)) ta tb) σ H (.int (i - j)) := ei_I0 ha hb fun _ => .int _
theorem ei_mul {i j : Int} (ha : EI K ta σ H (.int i)) (hb : EI K tb σ H (.int j)) (hc : CMul i j) : EI K (tOp (rI CMul fun i j => .int (i * j)) ta tb) σ H (.int (i * j)) := ei_I ha hb hc fun _ => .int _
theorem ei_mod {i j : Int} (ha : EI K ta σ H (.int i)) (hb : EI K tb σ H (.int j)) (hc : 0 < j) : EI K (tOp (rI (fun _ j => 0 < j) fun i j => .int (i % j)) ta tb) σ H (.int (i % j)) := ei_I ha hb hc fun _ => .int _
theorem ei_fdiv {i j : Int} (ha : EI K ta σ H (.int i)) (hb : EI K tb σ H (.int j)) (hc : CDiv i j) : EI K (tOp (rI CDiv fun i j => .int (i / j)) ta tb) σ H (.int (i / j)) := ei_I ha hb hc fun _ => .int _
theorem ei_pow {i j : Int} (ha : EI K ta σ H (.int i)) (hb : EI K tb σ H (.int j)) (hc : CPow i j) : EI K (tOp (rI CPow fun i j => .int (i ^ j.toNat)) ta tb) σ H (.int (i ^ j.toNat)) := ei_I ha hb hc fun _ => .int _
theorem ei_lt {i j : Int} (ha : EI K ta σ H (.int i)) (hb : EI K tb σ H (.int j)) : EI K (tOp (rI0 fun i j => .bl (decide (i < j))) ta tb) σ H (.bool (decide (i < j))) := ei_I0 ha hb fun _ => .bl _
theorem ei_le {i j : Int} (ha : EI K ta σ H (.int i)) (hb : EI K tb σ H (.int j)) : EI K (tOp (rI0 fun i j => .bl (decide (i ≤ j))) ta tb) σ H (.bool (decide (i ≤ j))) := ei_I0 ha hb fun _ => .bl _
theorem ei_gt {i j : Int} (ha : EI K ta σ H (.int i)) (hb : EI K tb σ H (.int j)) : EI K (tOp (rI0 fun i j => .bl (decide (j < i))) ta tb) σ H (.bool (decide (j < i))) := ei_I0 ha hb fun _ => .bl _
theorem ei_ge {i j : Int} (ha : EI K ta σ H (.int i)) (hb : EI K tb σ H (.int j)) : EI K (tOp (rI0 fun i j => .bl (decide (j ≤ i))) ta tb) σ H (.bool (decide (j ≤ i))) := ei_I0 ha hb fun _ => .bl _
theorem ei_neg {i : Int} (ha : EI K ta σ H (.int i)) : EI K (tUn (rU fun i => .int (-i)) ta) σ H (.int (-i)) := ei_un ha fun x H1 _ hx Q q => ⟨i, dp_int hx, q _ H1 (Same.refl H1) (.int _)⟩
theorem ei_eqI {i j : Int} (ha : EI K ta σ H (.int i)) (hb : EI K tb σ H (.int j)) : EI K (tOp rEq ta tb) σ H (.bool (decide (i = j))) :=
  ei_op ha hb fun x y H1 _ hx hy Q q => by
    cases dp_int hx
    cases dp_int hy
    refine ⟨rfl, q _ H1 (Same.refl H1) ?_⟩
    rw [show decide (V.int i = V.int j) = decide (i = j) from decide_eq_decide.mpr ⟨fun h => by cases h; rfl, fun h => by rw [h]⟩]
    exact .bl _
theorem ei_eqS {i j : Str} (ha : EI K ta σ H (.str i)) (hb : EI K tb σ H (.str j)) : EI K (tOp rEq ta tb) σ H (.bool (decide (i = j))) :=
  ei_op ha hb fun x y H1 _ hx hy Q q => by
    cases dp_str hx
    cases dp_str hy
    refine ⟨rfl, q _ H1 (Same.refl H1) ?_⟩
    rw [show decide (V.str i = V.str j) = decide (i = j) from decide_eq_decide.mpr ⟨fun h => by cases h; rfl, fun h => by rw [h]⟩]
    exact .bl _
theorem ei_neI {i j : Int} (ha : EI K ta σ H (.int i)) (hb : EI K tb σ H (.int j)) : EI K (tOp rNe ta tb) σ H (.bool (!decide (i = j))) :=
  ei_op ha hb fun x y H1 _ hx hy Q q => by
    cases dp_int hx
    cases dp_int hy
    refine ⟨rfl, q _ H1 (Same.refl H1) ?_⟩
    rw [show decide (V.int i = V.int j) = decide (i = j) from decide_eq_decide.mpr ⟨fun h => by cases h; rfl, fun h => by rw [h]⟩]
    exact .bl _
theorem ei_eqD (ha : EI K ta σ H d) (hb : EI K tb σ H e) (sd : SeqAt.shaped d = true) (se : SeqAt.shaped e = true) : EI K (tOp (rEqD K) ta tb) σ H (.bool (PyData.eqv d e)) :=
  ei_op ha hb fun x y H1 _ hx hy Q q => ⟨d, e, hx, hy, sd, se, q _ H1 (Same.refl H1) (.bl _)⟩
theorem ei_neD (ha : EI K ta σ H d) (hb : EI K tb σ H e) (sd : SeqAt.shaped d = true) (se : SeqAt.shaped e = true) : EI K (tOp (rNeD K) ta tb) σ H (.bool (!PyData.eqv d e)) :=
  ei_op ha hb fun x y H1 _ hx hy Q q => ⟨d, e, hx, hy, sd, se, q _ H1 (Same.refl H1) (.bl _)⟩
theorem ei_isB {a b : Bool} (ha : EI K ta σ H (.bool a)) (hb : EI K tb σ H (.bool b)) : EI K (tOp rIsB ta tb) σ H (.bool (decide (a = b))) :=
  ei_op ha hb fun x y H1 _ hx hy Q q => ⟨a, b, dp_bl hx, dp_bl hy, q _ H1 (Same.refl H1) (.bl _)⟩
theorem ei_notB {a b : Bool} (ha : EI K ta σ H (.bool a)) (hb : EI K tb σ H (.bool b)) : EI K (tOp rNotB ta tb) σ H (.bool (!decide (a = b))) :=
  ei_op ha hb fun x y H1 _ hx hy Q q => ⟨a, b, dp_bl hx, dp_bl hy, q _ H1 (Same.refl H1) (.bl _)⟩
def isNone : PyData → Bool
  | .none => true
  | _ => false
theorem dp_isNone {v : V} {d : PyData} (h : Dp K H v d) : decide (v = V.non) = isNone d := by
  cases h <;> rfl
/-- is None, is not None -/
def rIsN0 : R2 := fun x y H Q => y = .non ∧ Q (.bl (decide (x = .non))) H
def rNotN0 : R2 := fun x y H Q => y = .non ∧ Q (.bl (!decide (x = .non))) H
theorem op_isN0 {X : Cx} : OpR X (compareOp .Is) rIsN0 := op_isN
theorem op_notN0 {X : Cx} : OpR X (compareOp .IsNot) rNotN0 := op_notN
theorem ei_isN (ha : EI K ta σ H d) : EI K (tOp rIsN0 ta (tC .non)) σ H (.bool (isNone d)) :=
  ei_op ha ei_non fun x y H1 _ hx hy Q q => ⟨dp_non hy, q _ H1 (Same.refl H1) (by rw [dp_isNone hx]; exact .bl _)⟩
theorem ei_notN (ha : EI K ta σ H d) : EI K (tOp rNotN0 ta (tC .non)) σ H (.bool (!isNone d)) :=
  ei_op ha ei_non fun x y H1 _ hx hy Q q => ⟨dp_non hy, q _ H1 (Same.refl H1) (by rw [dp_isNone hx]; exact .bl _)⟩
/-! truth values -/
theorem ei_and {a : Bool} (ha : EI K ta σ H (.bool a)) (hb : a = true → EI K tb σ H d) (hd : a = false → d = .bool false) : EI K (tAndV ta tb) σ H d := fun H1 s Q q =>
  ha H1 s _ fun x H2 s2 hx => ⟨a, dp_bl hx, by
    cases a with
    | true => exact hb rfl H2 (s.trans s2) Q fun v H3 s3 => q v H3 (s2.trans s3)
    | false => exact q _ H2 s2 (by rw [hd rfl]; exact .bl _)⟩
theorem ei_or {a : Bool} (ha : EI K ta σ H (.bool a)) (hb : a = false → EI K tb σ H d) (hd : a = true → d = .bool true) : EI K (tOrV ta tb) σ H d := fun H1 s Q q =>
  ha H1 s _ fun x H2 s2 hx => ⟨a, dp_bl hx, by
    cases a with
    | false => exact hb rfl H2 (s.trans s2) Q fun v H3 s3 => q v H3 (s2.trans s3)
    | true => exact q _ H2 s2 (by rw [hd rfl]; exact .bl _)⟩
theorem ei_andB {a b : Bool} (ha : EI K ta σ H (.bool a)) (hb : a = true → EI K tb σ H (.bool b)) : EI K (tAndV ta tb) σ H (.bool (a && b)) :=
  ei_and ha (fun h => by rw [h]; exact hb h) (fun h => by rw [h]; rfl)
theorem ei_orB {a b : Bool} (ha : EI K ta σ H (.bool a)) (hb : a = false → EI K tb σ H (.bool b)) : EI K (tOrV ta tb) σ H (.bool (a || b)) :=
  ei_or ha (fun h => by rw [h]; exact hb h) (fun h => by rw [h]; rfl)
theorem ei_notV {a : Bool} (ha : EI K ta σ H (.bool a)) : EI K (tNotV ta) σ H (.bool (!a)) := fun H1 s Q q => ha H1 s _ fun x H2 s2 hx => ⟨a, dp_bl hx, q _ H2 s2 (.bl _)⟩
theorem ei_notL (ha : EL K ta σ H ds) : EI K (tNotT K ta) σ H (.bool ds.isEmpty) := fun H1 s Q q => ha H1 s _ fun p vs H2 s2 _ hp hv => by
  refine ⟨!vs.isEmpty, Or.inl ⟨vs, SqL.of hp, rfl⟩, q _ H2 s2 ?_⟩
  have e : vs.isEmpty = ds.isEmpty := by cases hv.1 <;> rfl
  rw [e, Bool.not_not]
  exact .bl _
theorem ei_if {b : Bool} (h : ET K t σ H b) (h1 : b = true → EI K ta σ H d) (h2 : b = false → EI K tb σ H d) : EI K (tIf t ta tb) σ H d := fun H1 s Q q => h H1 s _ fun H2 s2 => by
  cases b with
  | true => exact h1 rfl H2 (s.trans s2) Q fun v H3 s3 => q v H3 (s2.trans s3)
  | false => exact h2 rfl H2 (s.trans s2) Q fun v H3 s3 => q v H3 (s2.trans s3)
theorem ei_chain {r r' : R2} {i j k : Int} {p p' : Int → Int → Bool} (ha : EI K ta σ H (.int i)) (hb : EI K tb σ H (.int j)) (hc : EI K tc σ H (.int k)) (er : r = rI0 fun i j => .bl (p i j)) (er' : r' = rI0 fun i j => .bl (p' i j)) :
    EI K (tChain r r' ta tb tc) σ H (.bool (p i j && p' j k)) := fun H1 s Q q => by
  subst er er'
  refine ha H1 s _ fun x H2 s2 hx => hb H2 (s.trans s2) _ fun y H3 s3 hy => ⟨i, j, dp_int hx, dp_int hy, p i j, rfl, ?_⟩
  cases h : p i j with
  | false => exact q _ H3 (s2.trans s3) (by rw [h]; exact .bl _)
  | true => exact hc H3 ((s.trans s2).trans s3) _ fun z H4 s4 hz => ⟨j, k, dp_int hy, dp_int hz, q _ H4 ((s2.trans s3).trans s4) (by rw [h]; exact .bl _)⟩
theorem ei_chainLe {i j k : Int} (ha : EI K ta σ H (.int i)) (hb : EI K tb σ H (.int j)) (hc : EI K tc σ H (.int k)) : EI K (tChain (rI0 fun i j => .bl (decide (i ≤ j))) (rI0 fun i j => .bl (decide (i ≤ j))) ta tb tc) σ H (.bool (decide (i ≤ j) && decide (j ≤ k))) :=
  ei_chain (p := fun i j => decide (i ≤ j)) (p' := fun i j => decide (i ≤ j)) ha hb hc rfl rfl
theorem et_B {b : Bool} (h : EI K te σ H (.bool b)) : ET K (tB te) σ H b := fun H1 s _ q => h H1 s _ fun v H2 s2 hv => ⟨b, dp_bl hv, q H2 s2⟩
theorem et_test {b : Bool} (h : EI K te σ H (.bool b)) : ET K (tTest te) σ H b := fun H1 s _ q => h H1 s _ fun v H2 s2 hv => ⟨b, dp_bl hv, q H2 s2⟩
theorem et_and {a b : Bool} (h1 : ET K t σ H a) (h2 : a = true → ET K u σ H b) : ET K (tAnd t u) σ H (a && b) := fun H1 s Q q => h1 H1 s _ fun H2 s2 => by
  cases a with
  | true => exact h2 rfl H2 (s.trans s2) Q fun H3 s3 => q H3 (s2.trans s3)
  | false => exact q H2 s2
theorem et_or {a b : Bool} (h1 : ET K t σ H a) (h2 : a = false → ET K u σ H b) : ET K (tOr t u) σ H (a || b) := fun H1 s Q q => h1 H1 s _ fun H2 s2 => by
  cases a with
  | true => exact q H2 s2
  | false => exact h2 rfl H2 (s.trans s2) Q fun H3 s3 => q H3 (s2.trans s3)
theorem et_not {a : Bool} (h1 : ET K t σ H a) : ET K (tNot t) σ H (!a) := fun H1 s _ q => h1 H1 s _ fun H2 s2 => q H2 s2
theorem et_yes : ET K tYes σ H true := fun H1 _ _ q => q H1 (Same.refl H1)
/-! arguments, displays -/
theorem ea_nil : EA K tNil σ H [] := fun H1 _ _ q => q [] H1 (Same.refl H1) .nil
theorem ea_cons {tr : TA} (h : EI K te σ H d) (hr : EA K tr σ H ds) : EA K (tCons te tr) σ H (d :: ds) := fun H1 s _ q =>
  h H1 s _ fun v H2 s2 hv => hr H2 (s.trans s2) _ fun vs H3 s3 hs => q (v :: vs) H3 (s2.trans s3) (.cons (dp_same s3 d v hv) hs)
theorem sz_of {n : Nat} (h : n ≤ 100000) : n ≤ sizeLine := Nat.le_trans h (by decide)
theorem sz_lt {n : Nat} (h : n < 100000) : n < sizeLine := Nat.lt_of_lt_of_le h (by decide)
theorem ei_tup {ta : TA} (h : EA K ta σ H ds) (hl : ds.length ≤ 100000) : EI K (tTup ta) σ H (.tuple ds) := fun H1 s _ q =>
  h H1 s _ fun vs H2 s2 hv => ⟨sz_of (by rw [dpA_len hv]; exact hl), fun p hp => q _ _ (s2.trans (Same.new hp)) (.tup (SqT.of upd_same) (dpA_same (Same.new hp) ds vs hv))⟩
theorem el_lst {ta : TA} (h : EA K ta σ H ds) (hl : ds.length ≤ 100000) : EL K (tLst ta) σ H ds := fun H1 s _ q =>
  h H1 s _ fun vs H2 s2 hv => ⟨sz_of (by rw [dpA_len hv]; exact hl), fun p hp => q p vs _ (s2.trans (Same.new hp)) (s2.free hp) upd_same ⟨dpA_same (Same.new hp) ds vs hv, fun ys => dpA_same (Same.mut (Same.new hp) hp) ds vs hv⟩⟩
/-! items -/
theorem atI_dp {vs : List V} {i : Int} (ha : DpAll K H vs ds) (h : atI ds i = some d) : ∃ v, atI vs i = some v ∧ Dp K H v d := by
  unfold atI at h ⊢
  rw [dpA_len ha]
  cases e : ixN ds.length i with
  | none => rw [e] at h; cases h
  | some j =>
    rw [e] at h
    exact dpA_get ha h
theorem ei_ixT {i : Int} (ha : EI K ta σ H (.tuple ds)) (hb : EI K tb σ H (.int i)) (h : atI ds i = some d) : EI K (tOp (rIx K) ta tb) σ H d :=
  ei_op ha hb fun x y H1 _ hx hy Q q => by
    obtain ⟨a, xs, rfl, hs, hv⟩ := dp_tup hx
    obtain ⟨v, h1, h2⟩ := atI_dp hv h
    exact Or.inr (Or.inl ⟨a, xs, i, v, rfl, dp_int hy, hs, h1, q v H1 (Same.refl H1) h2⟩)
theorem ei_ixL {i : Int} (ha : EI K ta σ H (.list ds)) (hb : EI K tb σ H (.int i)) (h : atI ds i = some d) : EI K (tOp (rIx K) ta tb) σ H d :=
  ei_op ha hb fun x y H1 _ hx hy Q q => by
    obtain ⟨a, xs, rfl, hs, hv⟩ := dp_lst hx
    obtain ⟨v, h1, h2⟩ := atI_dp hv h
    exact Or.inl ⟨a, xs, i, v, rfl, dp_int hy, hs, h1, q v H1 (Same.refl H1) h2⟩
theorem ei_ixS {i : Int} {z : Str} {c : Nat} (ha : EI K ta σ H (.str z)) (hb : EI K tb σ H (.int i)) (hl : z.length ≤ 100000) (h : atI z.cps.toList i = some c) : EI K (tOp (rIx K) ta tb) σ H (.str ⟨#[c]⟩) :=
  ei_op ha hb fun x y H1 _ hx hy Q q => Or.inr (Or.inr ⟨z, i, c, dp_str hx, dp_int hy, sz_of hl, h, q _ H1 (Same.refl H1) (.str _)⟩)
/-! len -/
def rLen0 (K : Fr) : List V → Hp → VK → Prop := fun xs H Q => ∃ x n, xs = [x] ∧ LenV K x H n ∧ Q (.int n) H
theorem call_len0 {X : Cx} : CallR X (.builtin "len") (rLen0 X.K) := call_len
def lenD : PyData → Nat
  | .list ds => ds.length
  | .tuple ds => ds.length
  | .str z => z.length
  | _ => 0
def hasLen : PyData → Bool
  | .list _ => true
  | .tuple _ => true
  | .str z => decide (z.length ≤ 100000)
  | _ => false
theorem dp_len {v : V} (h : Dp K H v d) (hh : hasLen d = true) : LenV K v H (lenD d) := by
  cases h with
  | str x => exact ⟨sz_of (of_decide_eq_true hh), rfl⟩
  | lst hs ha => exact Or.inl ⟨_, hs, (dpA_len ha).symm⟩
  | tup hs ha => exact Or.inr ⟨_, hs, (dpA_len ha).symm⟩
  | _ => cases hh
theorem ei_cb {r : List V → Hp → VK → Prop} {ta : TA} (h : EA K ta σ H ds) (hr : ∀ vs H1, Same H H1 → DpAll K H1 vs ds → ∀ Q : VK, (∀ v H2, Same H1 H2 → Dp K H2 v f → Q v H2) → r vs H1 Q) : EI K (tCB r ta) σ H f := fun H1 s Q q =>
  h H1 s _ fun vs H2 s2 hv => hr vs H2 (s.trans s2) hv Q fun v H3 s3 => q v H3 (s2.trans s3)
theorem dpA1 {vs : List V} (h : DpAll K H vs [d]) : ∃ v, vs = [v] ∧ Dp K H v d := by
  cases h with
  | cons h1 h2 => cases h2; exact ⟨_, rfl, h1⟩
theorem dpA2 {vs : List V} (h : DpAll K H vs [d, e]) : ∃ v w, vs = [v, w] ∧ Dp K H v d ∧ Dp K H w e := by
  cases h with
  | cons h1 h2 =>
    obtain ⟨w, rfl, h3⟩ := dpA1 h2
    exact ⟨_, w, rfl, h1, h3⟩
theorem dpA3 {vs : List V} (h : DpAll K H vs [d, e, f]) : ∃ v w x, vs = [v, w, x] ∧ Dp K H v d ∧ Dp K H w e ∧ Dp K H x f := by
  cases h with
  | cons h1 h2 =>
    obtain ⟨w, x, rfl, h3, h4⟩ := dpA2 h2
    exact ⟨_, w, x, rfl, h1, h3, h4⟩
theorem ei_len (h : EI K te σ H d) (hh : hasLen d = true) : EI K (tCB (rLen0 K) (tCons te tNil)) σ H (.int (lenD d)) :=
  ei_cb (ea_cons h ea_nil) fun vs H1 _ hv Q q => by
    obtain ⟨v, rfl, h1⟩ := dpA1 hv
    exact ⟨v, lenD d, rfl, dp_len h1 hh, q _ H1 (Same.refl H1) (.int _)⟩
/-! isinstance with a built-in class -/
def tyD : PyData → String
  | .none => "NoneType"
  | .bool _ => "bool"
  | .int _ => "int"
  | .str _ => "str"
  | .list _ => "list"
  | .tuple _ => "tuple"
  | .dict _ => "dict"
theorem dp_ty {v : V} (h : Dp K H v d) : TyX K H v (.type (tyD d)) := by
  cases h with
  | non => exact .base .non
  | bl b => exact .base (.bl b)
  | int i => exact .base (.int i)
  | str x => exact .base (.str x)
  | lst hs ha =>
    rcases hs with (hs | ⟨o, hs⟩) | ⟨o, its, n, hk, hc, _⟩
    · exact .base (.lst hs)
    · exact .base (.frz hs)
    · exact .kList hk hc
  | tup hs ha =>
    rcases hs with (hs | ⟨o, hs⟩) | ⟨o, its, n, hk, hc, _⟩
    · exact .base (.tup hs)
    · exact .fTuple hs
    · exact .kTuple hk hc
theorem ei_isi {T : String} {b : Bool} (h : EI K te σ H d) (hk : kitB (tyD d) T = some b) : EI K (tCB (rIsi K) (tCons te (tCons (tC (.ty T)) tNil))) σ H (.bool b) := fun H1 s Q q =>
  h H1 s _ fun v H2 s2 hv => ⟨v, .ty T, .type (tyD d), .type T, b, rfl, .ty T, dp_ty hv, kit_ty hk, q _ H2 s2 (.bl _)⟩
def isInt : PyData → Bool
  | .int _ => true
  | .bool _ => true
  | _ => false
def isBool : PyData → Bool
  | .bool _ => true
  | _ => false
def isStr : PyData → Bool
  | .str _ => true
  | _ => false
def isTup : PyData → Bool
  | .tuple _ => true
  | _ => false
def isLst : PyData → Bool
  | .list _ => true
  | _ => false
theorem kitS_int (d : PyData) : kitB (tyD d) "int" = some (isInt d) := by
  cases d with
  | none => exact (by decide +kernel : kitB "NoneType" "int" = some false)
  | bool b => exact (by decide +kernel : kitB "bool" "int" = some true)
  | int i => exact (by decide +kernel : kitB "int" "int" = some true)
  | str x => exact (by decide +kernel : kitB "str" "int" = some false)
  | list xs => exact (by decide +kernel : kitB "list" "int" = some false)
  | tuple xs => exact (by decide +kernel : kitB "tuple" "int" = some false)
  | dict kvs => exact (by decide +kernel : kitB "dict" "int" = some false)
theorem kitS_bool (d : PyData) : kitB (tyD d) "bool" = some (isBool d) := by
  cases d with
  | none => exact (by decide +kernel : kitB "NoneType" "bool" = some false)
  | bool b => exact (by decide +kernel : kitB "bool" "bool" = some true)
  | int i => exact (by decide +kernel : kitB "int" "bool" = some false)
  | str x => exact (by decide +kernel : kitB "str" "bool" = some false)
  | list xs => exact (by decide +kernel : kitB "list" "bool" = some false)
  | tuple xs => exact (by decide +kernel : kitB "tuple" "bool" = some false)
  | dict kvs => exact (by decide +kernel : kitB "dict" "bool" = some false)
theorem kitS_str (d : PyData) : kitB (tyD d) "str" = some (isStr d) := by
  cases d with
  | none => exact (by decide +kernel : kitB "NoneType" "str" = some false)
  | bool b => exact (by decide +kernel : kitB "bool" "str" = some false)
  | int i => exact (by decide +kernel : kitB "int" "str" = some false)
  | str x => exact (by decide +kernel : kitB "str" "str" = some true)
  | list xs => exact (by decide +kernel : kitB "list" "str" = some false)
  | tuple xs => exact (by decide +kernel : kitB "tuple" "str" = some false)
  | dict kvs => exact (by decide +kernel : kitB "dict" "str" = some false)
theorem kitS_tuple (d : PyData) : kitB (tyD d) "tuple" = some (isTup d) := by
  cases d with
  | none => exact (by decide +kernel : kitB "NoneType" "tuple" = some false)
  | bool b => exact (by decide +kernel : kitB "bool" "tuple" = some false)
  | int i => exact (by decide +kernel : kitB "int" "tuple" = some false)
  | str x => exact (by decide +kernel : kitB "str" "tuple" = some false)
  | list xs => exact (by decide +kernel : kitB "list" "tuple" = some false)
  | tuple xs => exact (by decide +kernel : kitB "tuple" "tuple" = some true)
  | dict kvs => exact (by decide +kernel : kitB "dict" "tuple" = some false)
theorem kitS_list (d : PyData) : kitB (tyD d) "list" = some (isLst d) := by
  cases d with
  | none => exact (by decide +kernel : kitB "NoneType" "list" = some false)
  | bool b => exact (by decide +kernel : kitB "bool" "list" = some false)
  | int i => exact (by decide +kernel : kitB "int" "list" = some false)
  | str x => exact (by decide +kernel : kitB "str" "list" = some false)
  | list xs => exact (by decide +kernel : kitB "list" "list" = some true)
  | tuple xs => exact (by decide +kernel : kitB "tuple" "list" = some false)
  | dict kvs => exact (by decide +kernel : kitB "dict" "list" = some false)
theorem ei_isInt (h : EI K te σ H d) : EI K (tCB (rIsi K) (tCons te (tCons (tC (.ty "int")) tNil))) σ H (.bool (isInt d)) := ei_isi h (kitS_int d)
theorem ei_isBool (h : EI K te σ H d) : EI K (tCB (rIsi K) (tCons te (tCons (tC (.ty "bool")) tNil))) σ H (.bool (isBool d)) := ei_isi h (kitS_bool d)
theorem ei_isStr (h : EI K te σ H d) : EI K (tCB (rIsi K) (tCons te (tCons (tC (.ty "str")) tNil))) σ H (.bool (isStr d)) := ei_isi h (kitS_str d)
theorem ei_isTup (h : EI K te σ H d) : EI K (tCB (rIsi K) (tCons te (tCons (tC (.ty "tuple")) tNil))) σ H (.bool (isTup d)) := ei_isi h (kitS_tuple d)
theorem ei_isLst (h : EI K te σ H d) : EI K (tCB (rIsi K) (tCons te (tCons (tC (.ty "list")) tNil))) σ H (.bool (isLst d)) := ei_isi h (kitS_list d)
end
end Ml

namespace Ml
open PySem PySem.Spec PyProof.Rows L2
/-! ### defs bundled: the promise, how it binds, that it is kept -/
structure FnX (P : Program) (w : World) (K : Fr) (mg : Str → Option Value) (base : Heap) (k : Nat) (f : Addr) (ps : List Str) (sp : Sp) : Prop where
  ex : ∃ fd, FnOk P w K mg base (L2.CX P w) k f fd ps sp ∧ Binds K fd ps []
  kp : PySem.W.keepIn K (.ref f) = true
abbrev FnP (K : Fr) (x q : Str) (st : Stmt) (f : Addr) (fd : FuncData) : Prop := FunD K x q (defArgs st) (defBody st) (defScope st) [] [] f fd
theorem FnX.mono {P : Program} {w : World} {K : Fr} {mg : Str → Option Value} {base : Heap} {j k : Nat} {f : Addr} {ps : List Str} {sp : Sp} (F : FnX P w K mg base j f ps sp) (h : j ≤ k) : FnX P w K mg base k f ps sp := by
  obtain ⟨⟨fd, G, b⟩, kp⟩ := F
  exact ⟨⟨fd, G.mono h, b⟩, kp⟩
theorem FnX.imp {P : Program} {w : World} {K : Fr} {mg : Str → Option Value} {base : Heap} {k : Nat} {f : Addr} {ps : List Str} {sp sp' : Sp} (F : FnX P w K mg base k f ps sp) (h : ∀ vs H Q E, sp' vs H Q E → sp vs H Q E) : FnX P w K mg base k f ps sp' := by
  obtain ⟨⟨fd, G, b⟩, kp⟩ := F
  exact ⟨⟨fd, G.imp h, b⟩, kp⟩
/-- THE RULE for a def: its scope, how it binds, its promise by its body -/
theorem fnX_of {P : Program} {w : World} {K : Fr} {mg : Str → Option Value} {base : Heap} {k : Nat} {x q : Str} {st : Stmt} {f : Addr} {N ps : List Str} {sp : Sp} (F : ∃ fd, FnP K x q st f fd) (S : FnScope N ps (defScope st))
    (hb : ∀ (kV doc pm : Value) (an : Option Addr) (cdv ct : Value) (us : List Value), us.length = ps.length → bindArgs (PySem.W.fnOf x q (defArgs st) (defBody st) (defScope st) .none kV doc pm an cdv ct) ⟨us, []⟩ = pure (ps.zip us))
    (len : ∀ vs H Q E, sp vs H Q E → vs.length = ps.length)
    (hbody : ∀ (cdv : Value) (A : Around) (outer : List Env) (s : Shared) (H : Hp) (vs : List V) (Q : VK) (E : XK), Room k (A.deeper (envOfC q (defScope st) s.heap.objs.size f cdv)) → sp vs H Q E →
      ∃ t, PSs (cxOf (L2.CX P w) P w K mg base N q (defScope st) f cdv A outer s H E) (defBody st) t ∧ t { nx := fun _ H' => Q .non H', rt := Q } (start N vs) H) : FnX P w K mg base (k + 1) f ps sp := by
  obtain ⟨fd, F⟩ := F
  exact ⟨⟨fd, FunD.ok F S len hbody, FunD.bindsN F hb⟩, F.kp⟩
section
variable {X : Cx} {k : Nat} {f C : Addr} {ps : List Str} {sp : Sp} {E : XK} {ES : L2.St → XK} {x m : Str} {p pos apos : Pos} {e o : Expr} {es : List Expr} {ta : TE} {t : TA}
/-- f(e, ..) -/
theorem pe_f (G : FnX X.prog X.w X.K X.mg X.base k f ps sp) (hr : Room k X.A) (hm : X.mg x = some (.ref f)) (hx : Passes (L2.CX X.prog X.w) X E) (ha : PA X (e :: es) t) (hg : Gl X x := by rfl)
    (hdb : (x == ("__debug__" : Str)) = false := by decide) (he : starEach (e :: es) X.env = (false, eval e X.env) :: starEach es X.env := by rfl) (hpl : (backTo pos (starEach es X.env)).any (·.1) = false := by rfl) :
    PE X (.Call (.Name x p) (e :: es) [] pos) (tCall sp [] E t) := by
  obtain ⟨fd, F, b⟩ := G.ex
  exact pe_call F hr hg hm G.kp b .nil hx ha hdb he hpl
/-- f(e, ..), what it raises wished for at the slots (a try's body) -/
theorem pe_fS (G : FnX X.prog X.w X.K X.mg X.base k f ps sp) (hr : Room k X.A) (hm : X.mg x = some (.ref f)) (hx : ∀ σ, PassesAt (L2.CX X.prog X.w) X σ (ES σ)) (ha : PA X (e :: es) t) (hg : Gl X x := by rfl)
    (hdb : (x == ("__debug__" : Str)) = false := by decide) (he : starEach (e :: es) X.env = (false, eval e X.env) :: starEach es X.env := by rfl) (hpl : (backTo pos (starEach es X.env)).any (·.1) = false := by rfl) :
    PE X (.Call (.Name x p) (e :: es) [] pos) (tCallS sp ES t) := by
  obtain ⟨fd, F, b⟩ := G.ex
  exact pe_callS F hr hg hm G.kp b hx ha hdb he hpl
/-- a constant of the module -/
theorem pe_gint {i : Int} (h : ∃ t, X.mg x = some (.int i t)) (hg : Gl X x := by rfl) (hd : (x == ("__debug__" : Str)) = false := by decide) : PE X (.Name x pos) (tC (.int i)) := by
  obtain ⟨t, h⟩ := h
  exact pe_glob hg h ⟨t, rfl⟩ hd
theorem pe_gstr {z : Str} (h : ∃ t, X.mg x = some (.str z t)) (hg : Gl X x := by rfl) (hd : (x == ("__debug__" : Str)) = false := by decide) : PE X (.Name x pos) (tC (.str z)) := by
  obtain ⟨t, h⟩ := h
  exact pe_glob hg h ⟨t, rfl⟩ hd
theorem pe_gref {a : Addr} (h : X.mg x = some (.ref a)) (hg : Gl X x := by rfl) (hd : (x == ("__debug__" : Str)) = false := by decide) : PE X (.Name x pos) (tC (.ref a)) := pe_glob hg h rfl hd
theorem pe_ty {T : String} (h : X.mg x = none) (hv : bootBuiltins x = some (.type T)) (hg : Gl X x := by rfl) (hn : x ≠ "__name__" := by decide) (hd : (x == ("__debug__" : Str)) = false := by decide) : PE X (.Name x pos) (tC (.ty T)) := pe_bltn hg h hv rfl hn hd
/-- what leaves a callee leaves this def -/
theorem pass_of {E0 : XK} {E1 : Value → Shared → Prop} (hs : X.stack = X.env :: X.outer) (hf : X.env.frame = some X.env.locals) (hex : X.ex = [])
    (hx : X.xe = fun e s' => wpAny (model X.prog X.w) X.A (leaving X.env e) (fun _ s'' => L2.CX X.prog X.w X.outer X.H_0 X.s_0 E0 e s'') E1 s') : Passes (L2.CX X.prog X.w) X E0 :=
  passes_call (takes_of hs hf hex hx) fun _ _ _ _ h => h
end
/-! ### promises over data -/
/-- it gives a datum (R: what of which), and leaves all as it was -/
def PF (K : Fr) (R : List PyData → PyData → Prop) : Sp := fun vs H Q _ => ∃ ds d, DpAll K H vs ds ∧ R ds d ∧ ∀ v H', Same H H' → Dp K H' v d → Q v H'
/-- it gives a datum, or raises an error of the module's class named so -/
def PR (K : Fr) (R : List PyData → Except Str PyData → Prop) : Sp := fun vs H Q E => ∃ ds r, DpAll K H vs ds ∧ R ds r ∧ match r with
  | .ok d => ∀ v H', Same H H' → Dp K H' v d → Q v H'
  | .error c => ∀ H', Same H H' → E (.ref (He.ga K c)) none H'
section
variable {K : Fr} {σ : L2.St} {H : Hp} {ta tb tc te : TE} {t u : TT} {d e f : PyData} {ds : List PyData}
theorem ei_call {R : List PyData → PyData → Prop} {E : XK} {ta : TA} (h : EA K ta σ H ds) (hr : R ds d) : EI K (tCall (PF K R) [] E ta) σ H d := fun H1 s Q q =>
  h H1 s _ fun vs H2 s2 hv => ⟨ds, d, by rw [List.append_nil]; exact hv, hr, fun v H3 s3 hd => q v H3 (s2.trans s3) hd⟩
theorem ei_callR {R : List PyData → Except Str PyData → Prop} {E : XK} {ta : TA} (h : EA K ta σ H ds) (hr : R ds (.ok d)) : EI K (tCall (PR K R) [] E ta) σ H d := fun H1 s Q q =>
  h H1 s _ fun vs H2 s2 hv => ⟨ds, .ok d, by rw [List.append_nil]; exact hv, hr, fun v H3 s3 hd => q v H3 (s2.trans s3) hd⟩
/-! in, not in -/
def flatD : PyData → Bool
  | .none => true
  | .bool _ => true
  | .int _ => true
  | .str _ => true
  | _ => false
theorem dp_flat {v : V} (h : Dp K H v d) (hf : flatD d = true) : flatV v = true := by
  cases h <;> first | rfl | cases hf
theorem dp_eqV {v w : V} (h : Dp K H v d) (hf : flatD d = true) (h2 : Dp K H w e) (hf2 : flatD e = true) : eqV v w = PyData.eqv d e := by
  cases h <;> cases h2 <;> first | rfl | cases hf | cases hf2
theorem dpA_flat : ∀ {vs : List V} {ds : List PyData}, DpAll K H vs ds → ds.all flatD = true → vs.all flatV = true
  | [], [], _, _ => rfl
  | [], _ :: _, h, _ => by cases h
  | _ :: _, [], h, _ => by cases h
  | v :: vs, d :: ds, h, a => by
    rw [List.all_cons, Bool.and_eq_true] at a
    cases h with
    | cons h1 h2 => rw [List.all_cons, dp_flat h1 a.1, dpA_flat h2 a.2]; rfl
def inD (d : PyData) (ds : List PyData) : Bool := ds.any fun e => PyData.eqv e d
theorem dpA_inV {x : V} (hx : Dp K H x e) (hf : flatD e = true) : ∀ {vs : List V} {ds : List PyData}, DpAll K H vs ds → ds.all flatD = true → inV x vs = inD e ds
  | [], [], _, _ => rfl
  | [], _ :: _, h, _ => by cases h
  | _ :: _, [], h, _ => by cases h
  | v :: vs, d :: ds, h, a => by
    rw [List.all_cons, Bool.and_eq_true] at a
    cases h with
    | cons h1 h2 =>
      have ih := dpA_inV hx hf h2 a.2
      unfold inV inD at ih ⊢
      rw [List.any_cons, List.any_cons, ih, dp_eqV h1 a.1 hx hf]
def seqD : PyData → Option (List PyData)
  | .list ds => some ds
  | .tuple ds => some ds
  | _ => none
theorem dp_seq {v : V} (h : Dp K H v d) (hs : seqD d = some ds) : ∃ p xs, v = .ref p ∧ (SqL K H p xs ∨ SqT K H p xs) ∧ DpAll K H xs ds := by
  cases h with
  | lst h1 h2 =>
    have e := Option.some.inj hs
    subst e
    exact ⟨_, _, rfl, .inl h1, h2⟩
  | tup h1 h2 =>
    have e := Option.some.inj hs
    subst e
    exact ⟨_, _, rfl, .inr h1, h2⟩
  | _ => cases hs
theorem ei_inN {neg : Bool} (ha : EI K ta σ H d) (hb : EI K tb σ H e) (hs : seqD e = some ds) (hf : flatD d = true) (hd : ds.all flatD = true) : EI K (tOp (rIn K neg) ta tb) σ H (.bool (if neg then !inD d ds else inD d ds)) :=
  ei_op ha hb fun x y H1 _ hx hy Q q => by
    obtain ⟨p, xs, rfl, h1, h2⟩ := dp_seq hy hs
    refine ⟨p, xs, rfl, h1, dp_flat hx hf, dpA_flat h2 hd, q _ H1 (Same.refl H1) ?_⟩
    rw [dpA_inV hx hf h2 hd]
    exact .bl _
theorem ei_in (ha : EI K ta σ H d) (hb : EI K tb σ H e) (hs : seqD e = some ds) (hf : flatD d = true) (hd : ds.all flatD = true) : EI K (tOp (rIn K false) ta tb) σ H (.bool (inD d ds)) := ei_inN (neg := false) ha hb hs hf hd
theorem ei_ni (ha : EI K ta σ H d) (hb : EI K tb σ H e) (hs : seqD e = some ds) (hf : flatD d = true) (hd : ds.all flatD = true) : EI K (tOp (rIn K true) ta tb) σ H (.bool (!inD d ds)) := ei_inN (neg := true) ha hb hs hf hd
def rSgn : R2 := fun x y H Q => ∃ (c : Nat) (z : Str), x = .str ⟨#[c]⟩ ∧ y = .str z ∧ Q (.bl (decide (c ∈ z.cps.toList))) H
def rNSgn : R2 := fun x y H Q => ∃ (c : Nat) (z : Str), x = .str ⟨#[c]⟩ ∧ y = .str z ∧ Q (.bl (!decide (c ∈ z.cps.toList))) H
theorem op_sgn {X : Cx} : OpR X (compareOp .In) rSgn := op_in_sign
theorem op_nsgn {X : Cx} : OpR X (compareOp .NotIn) rNSgn := op_notIn_sign
theorem ei_nsgn {c : Nat} {z : Str} (ha : EI K ta σ H (.str ⟨#[c]⟩)) (hb : EI K tb σ H (.str z)) : EI K (tOp rNSgn ta tb) σ H (.bool (!decide (c ∈ z.cps.toList))) :=
  ei_op ha hb fun x y H1 _ hx hy Q q => ⟨c, z, dp_str hx, dp_str hy, q _ H1 (Same.refl H1) (.bl _)⟩
/-! max of two -/
def rMx2 : List V → Hp → VK → Prop := fun xs H Q => ∃ i j, xs = [.int i, .int j] ∧ Q (.int (if j > i then j else i)) H
theorem call_mx2 {X : Cx} (hc : X.calm = true) : CallR X (.builtin "max") rMx2 := call_max2 hc
theorem ei_max {i j : Int} (ha : EI K ta σ H (.int i)) (hb : EI K tb σ H (.int j)) : EI K (tCB rMx2 (tCons ta (tCons tb tNil))) σ H (.int (max i j)) :=
  ei_cb (ea_cons ha (ea_cons hb ea_nil)) fun vs H1 _ hv Q q => by
    obtain ⟨v, w, rfl, h1, h2⟩ := dpA2 hv
    refine ⟨i, j, by rw [dp_int h1, dp_int h2], q _ H1 (Same.refl H1) ?_⟩
    have e : (if j > i then j else i) = max i j := by
      by_cases h : j > i
      · rw [if_pos h]; omega
      · rw [if_neg h]; omega
    rw [e]
    exact .int _
/-! slices, +, * of tuples; tuple(), list() -/
theorem dp_of_seqT {a : Addr} {xs : List V} (h1 : SqT K H a xs) (h2 : DpAll K H xs ds) : Dp K H (.ref a) (.tuple ds) := .tup h1 h2
/-- x[lo:] -/
theorem ei_from {n : Nat} {tl : TE} (ha : EI K ta σ H (.tuple ds)) (hl : EI K tl σ H (.int (n : Int))) : EI K (tSl (rSlA K) ta (tPart tl) tNoPart) σ H (.tuple (ds.drop n)) := fun H1 s Q q =>
  ha H1 s _ fun x H2 s2 hx => hl H2 (s.trans s2) _ fun y H3 s3 hy => ⟨(n : Int), dp_int hy, by
    obtain ⟨a, xs, rfl, h1, h2⟩ := dp_tup (dp_same s3 _ _ hx)
    have hlo : HT.sIx xs.length 0 (some (n : Int)) = min n xs.length := HT.sIx_nat _ _ _
    have hhi : HT.sIx xs.length xs.length none = xs.length := rfl
    refine ⟨a, xs, rfl, h1, fun hw => ?_, fun hw p hp => ?_⟩
    · refine q _ H3 (s2.trans s3) (.tup h1 ?_)
      rw [hlo] at hw
      have hl := dpA_len h2
      have hd : ds.drop n = ds := by
        by_cases hn : n = 0
        · rw [hn]; rfl
        · have : ds.length = 0 := by omega
          rw [List.eq_nil_of_length_eq_zero this]
          simp
      rw [hd]
      exact h2
    · refine q _ _ ((s2.trans s3).trans (Same.new hp)) (.tup (SqT.of upd_same) (dpA_same (Same.new hp) _ _ ?_))
      unfold cutV
      rw [hlo, hhi]
      have e : (xs.drop (min n xs.length)).take (xs.length - min n xs.length) = xs.drop n := by
        rw [List.take_of_length_le (by rw [List.length_drop]; omega)]
        by_cases hn : n ≤ xs.length
        · rw [Nat.min_eq_left hn]
        · rw [Nat.min_eq_right (by omega), List.drop_length, List.drop_of_length_le (by omega)]
      rw [e]
      exact dpA_drop n h2⟩
theorem ei_catA {es : List PyData} (ha : EI K ta σ H (.tuple ds)) (hb : EI K tb σ H (.tuple es)) (hl : ds.length + es.length ≤ 100000) : EI K (tOp (rCatA K) ta tb) σ H (.tuple (ds ++ es)) :=
  ei_op ha hb fun x y H1 _ hx hy Q q => by
    obtain ⟨a, xs, rfl, h1, h2⟩ := dp_tup hx
    obtain ⟨b, ys, rfl, h3, h4⟩ := dp_tup hy
    have l1 := dpA_len h2
    have l2 := dpA_len h4
    refine ⟨a, b, xs, ys, rfl, rfl, h1, h3, sz_of (by omega), fun e => ?_, fun _ e => ?_, fun _ _ p hp => ?_⟩
    · subst e
      cases h2
      exact q _ H1 (Same.refl H1) hy
    · subst e
      cases h4
      rw [List.append_nil] at q
      exact q _ H1 (Same.refl H1) hx
    · exact q _ _ (Same.new hp) (.tup (SqT.of upd_same) (dpA_same (Same.new hp) _ _ (dpA_app h2 h4)))
theorem ei_tupOfL {ta : TE} (h : EL K ta σ H ds) : EI K (tThen ta (kTup K)) σ H (.tuple ds) := fun H1 s Q q =>
  h H1 s _ fun p vs H2 s2 _ hp hv => Or.inl ⟨p, vs, rfl, SqL.of hp, fun l hl => q _ _ (s2.trans (Same.new hl)) (.tup (SqT.of upd_same) (dpA_same (Same.new hl) _ _ hv.1))⟩
theorem el_listOfT {ta : TE} (h : EI K ta σ H d) (hs : seqD d = some ds) : EL K (tCB (fun xs H Q => ∃ p ys, xs = [.ref p] ∧ (SqL K H p ys ∨ SqT K H p ys) ∧ ∀ l, H l = none → Q (.ref l) (upd H l (.lst ys))) (tCons ta tNil)) σ H ds := fun H1 s Q q =>
  h H1 s _ fun v H2 s2 hv => by
    obtain ⟨p, xs, rfl, h1, h2⟩ := dp_seq hv hs
    exact ⟨p, xs, rfl, h1, fun l hl => q l xs _ (s2.trans (Same.new hl)) (s2.free hl) upd_same ⟨dpA_same (Same.new hl) _ _ h2, fun ys => dpA_same (Same.mut (Same.new hl) hl) _ _ h2⟩⟩
end
/-! ### statements -/
section
variable {K : Fr} {σ : L2.St} {H : Hp} {ta tb tc te : TE} {c : TT} {d e f : PyData} {ds : List PyData} {D : Ends} {t u : TS}
theorem s_seq (h : t { D with nx := u D } σ H) : tSeq t u D σ H := h
theorem s_ret (h : EI K te σ H d) (k : ∀ v H', Same H H' → Dp K H' v d → D.rt v H') : tRet te D σ H := h H (Same.refl H) _ fun v H2 s hv => k v H2 s hv
theorem s_if {b : Bool} (h : ET K c σ H b) (k1 : b = true → ∀ H', Same H H' → t D σ H') (k2 : b = false → ∀ H', Same H H' → u D σ H') : tIfS c t u D σ H := h H (Same.refl H) _ fun H2 s => by
  cases b with
  | true => exact k1 rfl H2 s
  | false => exact k2 rfl H2 s
theorem s_set {i : Nat} (h : EI K te σ H d) (k : ∀ v H', Same H H' → Dp K H' v d → D.nx (σ.set i (some v)) H') : tAsg te (gName i) D σ H := h H (Same.refl H) _ fun v H2 s hv => k v H2 s hv
theorem s_setL {i : Nat} (h : EL K te σ H ds) (k : ∀ p vs H', Same H H' → H p = none → H' p = some (.lst vs) → DpL K H' p vs ds → D.nx (σ.set i (some (.ref p))) H') : tAsg te (gName i) D σ H := h H (Same.refl H) _ fun p vs H2 s hp h2 hv => k p vs H2 s hp h2 hv
theorem s_drop (h : EI K te σ H d) (k : ∀ H', Same H H' → D.nx σ H') : tDrop te D σ H := h H (Same.refl H) _ fun _ H2 s _ => k H2 s
end
/-! ### comprehensions -/
theorem wipe1 (σ : L2.St) (i : Nat) (v : V) : wipe ((wipe σ [i]).set i (some v)) [i] = wipe σ [i] := by
  show ((σ.set i none).set i (some v)).set i none = σ.set i none
  rw [List.set_set, List.set_set]
theorem take_snoc {α : Type} : ∀ {l : List α} {i : Nat} {x : α}, l[i]? = some x → l.take (i + 1) = l.take i ++ [x]
  | [], i, x, h => by simp at h
  | a :: l, 0, x, h => by
    have e : a = x := Option.some.inj h
    subst e
    rfl
  | a :: l, i + 1, x, h => by
    have ih := take_snoc (l := l) (i := i) (x := x) h
    show a :: l.take (i + 1) = a :: l.take i ++ [x]
    rw [ih]
    rfl
def fm {α : Type} (p : α → Bool) (g : α → PyData) (xs : List α) : List PyData := (xs.filter p).map g
theorem fm_yes {α : Type} {p : α → Bool} {g : α → PyData} {xs : List α} {i : Nat} {x : α} (h : xs[i]? = some x) (hp : p x = true) : fm p g (xs.take (i + 1)) = fm p g (xs.take i) ++ [g x] := by
  unfold fm
  rw [take_snoc h, List.filter_append, List.map_append]
  simp [hp]
theorem fm_no {α : Type} {p : α → Bool} {g : α → PyData} {xs : List α} {i : Nat} {x : α} (h : xs[i]? = some x) (hp : p x = false) : fm p g (xs.take (i + 1)) = fm p g (xs.take i) := by
  unfold fm
  rw [take_snoc h, List.filter_append, List.map_append]
  simp [hp]
theorem fm_len {α : Type} {p : α → Bool} {g : α → PyData} {xs : List α} (i : Nat) : (fm p g (xs.take i)).length ≤ xs.length := by
  unfold fm
  rw [List.length_map]
  exact Nat.le_trans (List.length_filter_le _ _) (by rw [List.length_take]; omega)
theorem immAll_app : ∀ {a b : List PyData}, immAll a = true → immAll b = true → immAll (a ++ b) = true
  | [], _, _, h => h
  | x :: a, b, h, k => by
    have h2 : imm x = true ∧ immAll a = true := Bool.and_eq_true_iff.mp h
    show (imm x && immAll (a ++ b)) = true
    rw [h2.1, immAll_app h2.2 k]
    rfl
theorem get_take_mem {α : Type} {l : List α} {i : Nat} {x : α} (h : l[i]? = some x) : x ∈ l := List.mem_of_getElem? h
section
variable {K : Fr} {σ : L2.St} {H : Hp} {ta tb tc te : TE} {tt : TT} {d e f : PyData} {ds : List PyData}
/-- what stands between two turns: D holds what is made so far -/
def LcI (K : Fr) (H : Hp) (D : Addr) (done : List PyData) (Hc : Hp) : Prop := Same H Hc ∧ ∃ acc, Hc D = some (.lst acc) ∧ DpAll K Hc acc done ∧ immAll done = true
theorem lci_turn {α : Type} {D : Addr} {p : α → Bool} {g : α → PyData} {xs : List α} {i : Nat} {x : α} {Hc : Hp} {σ2 : L2.St} (hD : H D = none) (hx : xs[i]? = some x) (hl : xs.length ≤ 100000) (I : LcI K H D (fm p g (xs.take i)) Hc)
    (h1 : ET K tt σ2 Hc (p x)) (h2 : p x = true → EI K te σ2 Hc (g x) ∧ imm (g x) = true) :
    tt σ2 Hc fun b H3 => if b = true then te σ2 H3 fun y H4 => ∃ acc, H4 D = some (.lst acc) ∧ acc.length < sizeLine ∧ LcI K H D (fm p g (xs.take (i + 1))) (upd H4 D (.lst (acc ++ [y]))) else LcI K H D (fm p g (xs.take (i + 1))) H3 := by
  obtain ⟨s, acc, hA, hd, hi⟩ := I
  refine h1 Hc (Same.refl _) _ fun H3 s3 => ?_
  cases e : p x with
  | false =>
    show LcI K H D (fm p g (xs.take (i + 1))) H3
    rw [fm_no hx e]
    exact ⟨s.trans s3, acc, s3 _ _ hA, dpA_same s3 _ _ hd, hi⟩
  | true =>
    show te σ2 H3 _
    obtain ⟨h3, h4⟩ := h2 e
    refine h3 H3 s3 _ fun y H4 s4 hy => ⟨acc, s4 _ _ (s3 _ _ hA), ?_, ?_⟩
    · have : acc.length ≤ xs.length := by rw [dpA_len hd]; exact fm_len i
      have hlt : i < xs.length := (List.getElem?_eq_some_iff.mp hx).1
      have h5 : (fm p g (xs.take i)).length ≤ i := by
        unfold fm
        rw [List.length_map]
        exact Nat.le_trans (List.length_filter_le _ _) (by rw [List.length_take]; omega)
      have h6 := dpA_len hd
      exact sz_lt (by omega)
    · have hA4 : H4 D = some (.lst acc) := s4 _ _ (s3 _ _ hA)
      rw [fm_yes hx e]
      refine ⟨Same.mut ((s.trans s3).trans s4) hD, acc ++ [y], upd_same, ?_, immAll_app hi (by show (imm (g x) && true) = true; rw [h4]; rfl)⟩
      refine dpA_app (dpA_keep (keepT_lst hA4) _ _ hi (dpA_same (s3.trans s4) _ _ hd)) (.cons (dp_keep (keepT_lst hA4) _ _ h4 hy) .nil)
/-- [e for x in tuple if ..] -/
theorem el_lcT {i : Nat} (p : PyData → Bool) (g : PyData → PyData) (ha : EI K ta σ H (.tuple ds)) (hl : ds.length ≤ 100000)
    (hs : ∀ x ∈ ds, ∀ v H1, Same H H1 → Dp K H1 v x → ET K tt ((wipe σ [i]).set i (some v)) H1 (p x) ∧ (p x = true → EI K te ((wipe σ [i]).set i (some v)) H1 (g x) ∧ imm (g x) = true)) :
    EL K (tLc (iTup K ta) (gName i) tt te [i]) σ H (fm p g ds) := fun H1 s Q q => by
  refine ha H1 s _ fun v H2 s2 hv => ?_
  obtain ⟨a, xs, rfl, h1, h2⟩ := dp_tup hv
  refine ⟨a, rfl, ⟨_, h1⟩, fun D hD => ?_⟩
  have ln := dpA_len h2
  refine lc_tup (K := K) (a := a) (xs := xs) (fun i Hc => LcI K H2 D (fm p g (ds.take i)) Hc) ?_ (fun i Hc _ I => sqT_same I.1 h1) (fun j y Hc hj I => ?_) (fun Hc I => ?_)
  · exact ⟨Same.new hD, [], upd_same, .nil, rfl⟩
  · obtain ⟨x, hx, hy⟩ := dpA_getV h2 hj
    refine ⟨wipe1 σ i y, ?_⟩
    obtain ⟨k1, k2⟩ := hs x (List.mem_of_getElem? hx) y Hc ((s.trans s2).trans I.1) (dp_same I.1 _ _ hy)
    exact lci_turn hD hx hl I k1 k2
  · rw [ln, List.take_length] at I
    obtain ⟨s3, acc, hA, hd, him⟩ := I
    exact q D acc Hc (s2.trans s3) (s2.free hD) hA ⟨hd, fun ys => dpA_keep (keepT_lst hA) _ _ him hd⟩
/-- [e for x in list if ..] -/
theorem el_lcL {i : Nat} (p : PyData → Bool) (g : PyData → PyData) (ha : EI K ta σ H (.list ds)) (hl : ds.length ≤ 100000)
    (hs : ∀ x ∈ ds, ∀ v H1, Same H H1 → Dp K H1 v x → ET K tt ((wipe σ [i]).set i (some v)) H1 (p x) ∧ (p x = true → EI K te ((wipe σ [i]).set i (some v)) H1 (g x) ∧ imm (g x) = true)) :
    EL K (tLc (iList K ta) (gName i) tt te [i]) σ H (fm p g ds) := fun H1 s Q q => by
  refine ha H1 s _ fun v H2 s2 hv => ?_
  obtain ⟨a, xs, rfl, h1, h2⟩ := dp_lst hv
  refine ⟨a, rfl, ⟨_, h1⟩, fun D hD => ?_⟩
  have ln := dpA_len h2
  refine lc_list (K := K) (a := a) (xs := xs) (fun i Hc => LcI K H2 D (fm p g (ds.take i)) Hc) ?_ (fun i Hc _ I => sqL_same I.1 h1) (fun j y Hc hj I => ?_) (fun Hc I => ?_)
  · exact ⟨Same.new hD, [], upd_same, .nil, rfl⟩
  · obtain ⟨x, hx, hy⟩ := dpA_getV h2 hj
    refine ⟨wipe1 σ i y, ?_⟩
    obtain ⟨k1, k2⟩ := hs x (List.mem_of_getElem? hx) y Hc ((s.trans s2).trans I.1) (dp_same I.1 _ _ hy)
    exact lci_turn hD hx hl I k1 k2
  · rw [ln, List.take_length] at I
    obtain ⟨s3, acc, hA, hd, him⟩ := I
    exact q D acc Hc (s2.trans s3) (s2.free hD) hA ⟨hd, fun ys => dpA_keep (keepT_lst hA) _ _ him hd⟩
/-- [e for k in range(n) if ..] -/
theorem el_lcR {i : Nat} {n : Nat} {ta : TA} (p : Nat → Bool) (g : Nat → PyData) (ha : EA K ta σ H [.int (n : Nat)]) (hl : n ≤ 100000)
    (hs : ∀ k : Nat, k < n → ∀ H1, Same H H1 → ET K tt ((wipe σ [i]).set i (some (.int (k : Nat)))) H1 (p k) ∧ (p k = true → EI K te ((wipe σ [i]).set i (some (.int (k : Nat)))) H1 (g k) ∧ imm (g k) = true)) :
    EL K (tLc (iRng1 ta) (gName i) tt te [i]) σ H (fm p g (List.range n)) := fun H1 s Q q => by
  refine ha H1 s _ fun vs H2 s2 hv => ?_
  obtain ⟨v, rfl, h1⟩ := dpA1 hv
  refine ⟨(n : Nat), by rw [dp_int h1], by omega, by omega, fun D hD => ?_⟩
  refine lc_range (lo := 0) (n := n) (fun i Hc => LcI K H2 D (fm p g ((List.range n).take i)) Hc) ?_ (fun j Hc hj I => ?_) (fun Hc I => ?_)
  · exact ⟨Same.new hD, [], upd_same, .nil, rfl⟩
  · have e : (0 : Int) + (j : Nat) = (j : Nat) := by omega
    rw [e]
    refine ⟨wipe1 σ i _, ?_⟩
    obtain ⟨k1, k2⟩ := hs j hj Hc ((s.trans s2).trans I.1)
    exact lci_turn hD (List.getElem?_range hj) (by rw [List.length_range]; exact hl) I k1 k2
  · rw [List.take_of_length_le (by rw [List.length_range]; exact Nat.le_refl _)] at I
    obtain ⟨s3, acc, hA, hd, him⟩ := I
    exact q D acc Hc (s2.trans s3) (s2.free hD) hA ⟨hd, fun ys => dpA_keep (keepT_lst hA) _ _ him hd⟩
/-- [c for c in text if ..] -/
theorem el_lcS {i : Nat} {z : Str} (p : Nat → Bool) (g : Nat → PyData) (ha : EI K ta σ H (.str z)) (hl : z.cps.size ≤ 100000)
    (hs : ∀ c : Nat, c ∈ z.cps.toList → ∀ H1, Same H H1 → ET K tt ((wipe σ [i]).set i (some (.str ⟨#[c]⟩))) H1 (p c) ∧ (p c = true → EI K te ((wipe σ [i]).set i (some (.str ⟨#[c]⟩))) H1 (g c) ∧ imm (g c) = true)) :
    EL K (tLc (iStr ta) (gName i) tt te [i]) σ H (fm p g z.cps.toList) := fun H1 s Q q => by
  refine ha H1 s _ fun v H2 s2 hv => ?_
  refine ⟨z, dp_str hv, fun D hD => ?_⟩
  have ln : z.cps.toList.length = z.cps.size := by simp
  refine ⟨fun j m Hc => m = z.cps.size - j ∧ j ≤ z.cps.size ∧ LcI K H2 D (fm p g (z.cps.toList.take j)) Hc, ⟨z.cps.size, by omega, Nat.zero_le _, Same.new hD, [], upd_same, .nil, rfl⟩, ?_⟩
  rintro j m Hc ⟨rfl, hj, I⟩
  by_cases hlt : j < z.cps.size
  · refine .inr ⟨hlt, LcI K H2 D (fm p g (z.cps.toList.take (j + 1))), fun H' p' => ⟨z.cps.size - (j + 1), by omega, rfl, hlt, p'⟩, fun x H' y => ?_⟩
    obtain ⟨e, c, hc, y⟩ := y
    subst e y
    have hx : z.cps.toList[j]? = some c := by simp [hc]
    have hm : c ∈ z.cps.toList := List.mem_of_getElem? hx
    refine ⟨wipe1 σ i _, ?_⟩
    obtain ⟨k1, k2⟩ := hs c hm _ ((s.trans s2).trans I.1)
    exact lci_turn hD hx (by rw [ln]; exact hl) I k1 k2
  · have e : j = z.cps.size := by omega
    subst e
    rw [List.take_of_length_le (by rw [ln]; exact Nat.le_refl _)] at I
    obtain ⟨s3, acc, hA, hd, him⟩ := I
    exact .inl ⟨Nat.le_refl _, q D acc Hc (s2.trans s3) (s2.free hD) hA ⟨hd, fun ys => dpA_keep (keepT_lst hA) _ _ him hd⟩⟩
/-- [x for x in tuple if ..]: the items themselves, of any kind -/
theorem el_lcV {i : Nat} (p : PyData → Bool) (hi : i < σ.length) (ha : EI K ta σ H (.tuple ds)) (hl : ds.length ≤ 100000)
    (hs : ∀ x ∈ ds, ∀ v H1, Same H H1 → Dp K H1 v x → ET K tt ((wipe σ [i]).set i (some v)) H1 (p x)) :
    EL K (tLc (iTup K ta) (gName i) tt (tVar i) [i]) σ H (ds.filter p) := fun H1 s Q q => by
  refine ha H1 s _ fun v H2 s2 hv => ?_
  obtain ⟨a, xs, rfl, h1, h2⟩ := dp_tup hv
  refine ⟨a, rfl, ⟨_, h1⟩, fun D hD => ?_⟩
  have ln := dpA_len h2
  refine lc_tup (K := K) (a := a) (xs := xs) (fun i Hc => Same H2 Hc ∧ ∃ acc, Hc D = some (.lst acc) ∧ DpAll K H2 acc ((ds.take i).filter p)) ?_ (fun i Hc _ I => sqT_same I.1 h1) (fun j y Hc hj I => ?_) (fun Hc I => ?_)
  · exact ⟨Same.new hD, [], upd_same, .nil⟩
  · obtain ⟨x, hx, hy⟩ := dpA_getV h2 hj
    refine ⟨wipe1 σ i y, ?_⟩
    have k1 := hs x (List.mem_of_getElem? hx) y Hc ((s.trans s2).trans I.1) (dp_same I.1 _ _ hy)
    obtain ⟨s3, acc, hA, hd⟩ := I
    refine k1 Hc (Same.refl _) _ fun H3 s4 => ?_
    rw [take_snoc hx, List.filter_append]
    cases e : p x with
    | false =>
      show Same H2 H3 ∧ _
      refine ⟨s3.trans s4, acc, s4 _ _ hA, ?_⟩
      simp [e]
      exact hd
    | true =>
      refine iteT ?_
      refine ⟨y, ?_, acc, s4 _ _ hA, ?_, Same.mut (s3.trans s4) hD, acc ++ [y], upd_same, ?_⟩
      · rw [List.getElem?_set_self (by rw [wipe_length]; exact hi)]
      · have h5 : ((ds.take j).filter p).length ≤ ds.length := Nat.le_trans (List.length_filter_le _ _) (by rw [List.length_take]; omega)
        have h6 := dpA_len hd
        have h7 : ((ds.take j).filter p).length ≤ j := Nat.le_trans (List.length_filter_le _ _) (by rw [List.length_take]; omega)
        have hlt : j < ds.length := (List.getElem?_eq_some_iff.mp hx).1
        exact sz_lt (by omega)
      · simp [e]
        exact dpA_app hd (.cons hy .nil)
  · rw [ln, List.take_length] at I
    obtain ⟨s3, acc, hA, hd⟩ := I
    exact q D acc Hc (s2.trans s3) (s2.free hD) hA ⟨dpA_same s3 _ _ hd, fun ys => dpA_same (Same.mut s3 hD) _ _ hd⟩
end
end Ml

namespace Ml
open PySem PySem.Spec PyProof.Rows L2
theorem bb_len : bootBuiltins "len" = some (.builtin "len") := by decide +kernel
theorem bb_isinstance : bootBuiltins "isinstance" = some (.builtin "isinstance") := by decide +kernel
theorem bb_max : bootBuiltins "max" = some (.builtin "max") := by decide +kernel
theorem bb_min : bootBuiltins "min" = some (.builtin "min") := by decide +kernel
theorem bb_sorted : bootBuiltins "sorted" = some (.builtin "sorted") := by decide +kernel
theorem bb_sum : bootBuiltins "sum" = some (.builtin "sum") := by decide +kernel
theorem bb_int : bootBuiltins "int" = some (.type "int") := by decide +kernel
theorem bb_bool : bootBuiltins "bool" = some (.type "bool") := by decide +kernel
theorem bb_str : bootBuiltins "str" = some (.type "str") := by decide +kernel
theorem bb_tuple : bootBuiltins "tuple" = some (.type "tuple") := by decide +kernel
theorem bb_list : bootBuiltins "list" = some (.type "list") := by decide +kernel
theorem bb_dict : bootBuiltins "dict" = some (.type "dict") := by decide +kernel
theorem bb_set : bootBuiltins "set" = some (.type "set") := by decide +kernel
theorem bb_range : bootBuiltins "range" = some (.type "range") := by decide +kernel
section
variable {X : Cx} {k : Nat} {f C : Addr} {ps : List Str} {sp : Sp} {E : XK} {x m : Str} {p pos apos : Pos} {e o : Expr} {es : List Expr} {ta : TE} {t : TA}
/-- C(e, ..) -/
theorem pe_mk (M : Mk X.K C f) (G : FnX X.prog X.w X.K X.mg X.base k f ps sp) (hr : Room (k + 1) X.A) (hm : X.mg x = some (.ref C)) (hx : Passes (L2.CX X.prog X.w) X E) (ha : PA X (e :: es) t) (hg : Gl X x := by rfl)
    (hdb : (x == ("__debug__" : Str)) = false := by decide) (he : starEach (e :: es) X.env = (false, eval e X.env) :: starEach es X.env := by rfl) (hpl : (backTo pos (starEach es X.env)).any (·.1) = false := by rfl) :
    PE X (.Call (.Name x p) (e :: es) [] pos) (tMake C sp [] E t) := by
  obtain ⟨fd, F, b⟩ := G.ex
  exact pe_make M F hr hg hm b .nil hx ha hdb he hpl
/-- o.m(e, ..) -/
theorem pe_mt {pl : Sem Bool} (he : PE X o ta) (c : Cls X.K C) (hm : Meth X.K C m f) (G : FnX X.prog X.w X.K X.mg X.base k f ps sp) (hr : Room k X.A) (hx : Passes (L2.CX X.prog X.w) X E) (ha : PA X (e :: es) t)
    (hst : starEach (e :: es) X.env = (false, eval e X.env) :: starEach es X.env := by rfl) (hpl : (backTo pos (starEach es X.env)).any (·.1) = false := by rfl)
    (ht : eval (.Call (.Attribute o m apos) (e :: es) [] pos) X.env = (do
      let ov ← eval o X.env
      standAt apos.atName
      let (f, first) ← holding [ov] (getMethod ov m pl)
      callWith pos f first (backTo pos (starEach (e :: es) X.env)) (backToKw pos (keywordEach [] X.env))) := by rfl) :
    PE X (.Call (.Attribute o m apos) (e :: es) [] pos) (tMeth C m sp [] E ta t) := by
  obtain ⟨fd, F, b⟩ := G.ex
  exact pe_meth he c hm F hr b .nil hx ha hst hpl ht
/-- o.m() -/
theorem pe_mt0 {pl : Sem Bool} (he : PE X o ta) (c : Cls X.K C) (hm : Meth X.K C m f) (G : FnX X.prog X.w X.K X.mg X.base k f ps sp) (hr : Room k X.A) (hx : Passes (L2.CX X.prog X.w) X E)
    (ht : eval (.Call (.Attribute o m apos) [] [] pos) X.env = (do
      let ov ← eval o X.env
      standAt apos.atName
      let (f, first) ← holding [ov] (getMethod ov m pl)
      callWith pos f first [] []) := by rfl) :
    PE X (.Call (.Attribute o m apos) [] [] pos) (tMeth C m sp [] E ta tNil) := by
  obtain ⟨fd, F, b⟩ := G.ex
  exact pe_meth0 he c hm F hr b .nil hx ht
end
/-! ### more of tests and loops -/
theorem immAll_mem : ∀ {ds : List PyData} {x : PyData}, immAll ds = true → x ∈ ds → imm x = true
  | [], _, _, h => by cases h
  | d :: ds, x, h, m => by
    have h2 : imm d = true ∧ immAll ds = true := Bool.and_eq_true_iff.mp h
    rcases List.mem_cons.mp m with rfl | m
    · exact h2.1
    · exact immAll_mem h2.2 m
theorem immAll_of : ∀ {ds : List PyData}, (∀ x ∈ ds, imm x = true) → immAll ds = true
  | [], _ => rfl
  | d :: ds, h => by
    show (imm d && immAll ds) = true
    rw [h d List.mem_cons_self, immAll_of fun x m => h x (List.mem_cons_of_mem _ m)]
    rfl
section
variable {K : Fr} {σ : L2.St} {H : Hp} {ta tb tc te : TE} {t u : TT} {d e f : PyData} {ds : List PyData} {D : Ends} {ts us : TS}
theorem et_orT (h : ET K t σ H true) : ET K (tOr t u) σ H true := fun H1 s Q q => h H1 s _ fun H2 s2 => q H2 s2
theorem et_orF {b : Bool} (h : ET K t σ H false) (h2 : ET K u σ H b) : ET K (tOr t u) σ H b := fun H1 s Q q => h H1 s _ fun H2 s2 => h2 H2 (s.trans s2) Q fun H3 s3 => q H3 (s2.trans s3)
theorem et_andT {b : Bool} (h : ET K t σ H true) (h2 : ET K u σ H b) : ET K (tAnd t u) σ H b := fun H1 s Q q => h H1 s _ fun H2 s2 => h2 H2 (s.trans s2) Q fun H3 s3 => q H3 (s2.trans s3)
theorem et_andF (h : ET K t σ H false) : ET K (tAnd t u) σ H false := fun H1 s Q q => h H1 s _ fun H2 s2 => q H2 s2
theorem ei_andT {b : PyData} (h : EI K ta σ H (.bool true)) (h2 : EI K tb σ H b) : EI K (tAndV ta tb) σ H b := ei_and h (fun _ => h2) (fun z => by cases z)
theorem ei_andF (h : EI K ta σ H (.bool false)) : EI K (tAndV ta tb) σ H (.bool false) := ei_and h (fun z => by cases z) (fun _ => rfl)
theorem s_ifT (h : ET K t σ H true) (k : ∀ H', Same H H' → ts D σ H') : tIfS t ts us D σ H := s_if h (fun _ => k) (fun z => by cases z)
theorem s_ifF (h : ET K t σ H false) (k : ∀ H', Same H H' → us D σ H') : tIfS t ts us D σ H := s_if h (fun z => by cases z) (fun _ => k)
theorem s_next (k : D.nx σ H) : tNext D σ H := k
/-- for x in a tuple of what never changes -/
theorem s_forT {i : Nat} {tb : TS} (ha : EI K ta σ H (.tuple ds)) (him : immAll ds = true)
    (k : ∀ H1, Same H H1 → ∃ Pv : Nat → L2.St → Hp → Prop, Pv 0 σ H1 ∧ (∀ j σ' H', Pv j σ' H' → KeepT K H1 H') ∧
      (∀ j x v σ' H', ds[j]? = some x → Dp K H' v x → Pv j σ' H' → tb { D with nx := Pv (j + 1), ct := Pv (j + 1), bk := D.nx } (σ'.set i (some v)) H') ∧ ∀ σ' H', Pv ds.length σ' H' → D.nx σ' H') :
    tFor (iTup K ta) (gName i) tb D σ H := by
  refine ha H (Same.refl H) _ fun v H1 s1 hv => ?_
  obtain ⟨a, xs, rfl, h1, h2⟩ := dp_tup hv
  obtain ⟨Pv, p0, pk, ps, pd⟩ := k H1 s1
  refine ⟨a, rfl, ⟨_, h1⟩, for_tup (K := K) (a := a) (xs := xs) Pv p0 (fun j σ' H' _ p => pk j σ' H' p a xs h1) (fun j y σ' H' hj p => ?_) (fun σ' H' p => ?_)⟩
  · obtain ⟨x, hx, hy⟩ := dpA_getV h2 hj
    exact ps j x y σ' H' hx (dp_keep (pk j σ' H' p) _ _ (immAll_mem him (List.mem_of_getElem? hx)) hy) p
  · rw [dpA_len h2] at p
    exact pd σ' H' p
/-- xs.append(e), xs in slot i -/
theorem s_append {i : Nat} {p : Addr} {xs : List V} (hσ : σ[i]? = some (some (.ref p))) (hp : H p = some (.lst xs)) (hl : xs.length < 100000) (h : EI K te σ H d) (k : ∀ v H', Same H H' → Dp K H' v d → D.nx σ (upd H' p (.lst (xs ++ [v])))) :
    tDrop (tBM K "list" rAppend (tVar i) (tCons te tNil)) D σ H := by
  refine ⟨_, hσ, Or.inl ⟨rfl, xs, SqL.of hp⟩, ?_⟩
  refine h H (Same.refl H) _ fun v H2 s2 hv => ?_
  exact ⟨p, xs, v, rfl, rfl, s2 _ _ hp, sz_lt hl, k v H2 s2 hv⟩
/-- xs + [..], xs in slot i -/
theorem el_catV {i : Nat} {p : Addr} {vs : List V} {es : List PyData} (hσ : σ[i]? = some (some (.ref p))) (hp : H p = some (.lst vs)) (hd : DpAll K H vs ds) (hb : EL K tb σ H es) (hl : ds.length + es.length ≤ 100000) : EL K (tOp rCat (tVar i) tb) σ H (ds ++ es) := fun H1 s Q q => by
  refine ⟨_, hσ, ?_⟩
  refine hb H1 s _ fun b ws H2 s2 _ hb2 hw => ?_
  have hv := dpA_same (s.trans s2) _ _ hd
  have l1 := dpA_len hd
  have l2 := dpA_len hw.1
  refine ⟨p, b, vs, ws, rfl, rfl, (s.trans s2) _ _ hp, hb2, sz_of (by omega), fun l hl => ?_⟩
  exact q l _ _ (s2.trans (Same.new hl)) (s2.free hl) upd_same ⟨dpA_same (Same.new hl) _ _ (dpA_app hv hw.1), fun ys => dpA_same (Same.mut (Same.new hl) hl) _ _ (dpA_app hv hw.1)⟩
/-- t * k -/
theorem ei_repT {k : Nat} (ha : EI K ta σ H (.tuple ds)) (hb : EI K tb σ H (.int (k : Nat))) (hne : ds ≠ []) (h2 : 2 ≤ k) (hk : k ≤ 1000) (hl : ds.length ≤ 1000) : EI K (tOp (rRepT K) ta tb) σ H (.tuple (List.replicate k ds).flatten) :=
  ei_op ha hb fun x y H1 _ hx hy Q q => by
    obtain ⟨a, xs, rfl, h1, h3⟩ := dp_tup hx
    have ln := dpA_len h3
    refine ⟨a, (k : Nat), xs, rfl, dp_int hy, h1, fun e => hne (List.eq_nil_of_length_eq_zero (by rw [← ln, e]; rfl)), by omega, by omega, by omega, fun p hp => q _ _ (Same.new hp) (.tup (SqT.of upd_same) (dpA_same (Same.new hp) _ _ ?_))⟩
    have e : ((k : Nat) : Int).toNat = k := by omega
    rw [e]
    clear e q hl hk h2 hb hy
    induction k with
    | zero => exact .nil
    | succ n ih =>
      rw [List.replicate_succ, List.replicate_succ, List.flatten_cons, List.flatten_cons]
      exact dpA_app h3 ih
theorem dpA_strs : ∀ {ys : List Str} {xs : List V}, DpAll K H xs (ys.map PyData.str) → xs = ys.map V.str
  | [], _, h => by cases h; rfl
  | y :: ys, _, h => by
    cases h with
    | cons h3 h4 => rw [dp_str h3, dpA_strs h4]; rfl
/-- sep.join(list of texts) -/
theorem ei_join {ys : List Str} {sep : Str} (ha : EI K ta σ H (.str sep)) (hb : EI K tb σ H (.list (ys.map PyData.str))) (hl : (ys.map (·.length)).sum + ys.length * sep.length ≤ 16777216) :
    EI K (tM1 (fun x xs H Q => ∃ a p, ∃ ys : List Str, x = .str a ∧ xs = [.ref p] ∧ (SqL K H p (ys.map V.str) ∨ SqT K H p (ys.map V.str)) ∧ (ys.map (·.length)).sum + ys.length * a.length ≤ 16777216 ∧ Q (.str (Txt.join a ys)) H) ta tb) σ H (.str (Txt.join sep ys)) := fun H1 s Q q =>
  ha H1 s _ fun x H2 s2 hx => ⟨⟨sep, dp_str hx⟩, hb H2 (s.trans s2) _ fun y H3 s3 hy => by
    obtain ⟨p, xs, rfl, h1, h2⟩ := dp_lst hy
    have e := dpA_strs h2
    subst e
    exact ⟨sep, p, ys, dp_str hx, rfl, .inl h1, hl, q _ H3 (s2.trans s3) (.str _)⟩⟩
/-- for k in range(n) -/
theorem s_forR {i n : Nat} {ta : TA} {tb : TS} (ha : EA K ta σ H [.int (n : Nat)]) (hl : n ≤ 100000)
    (k : ∀ H1, Same H H1 → ∃ Pv : Nat → L2.St → Hp → Prop, Pv 0 σ H1 ∧
      (∀ (j : Nat) σ' H', j < n → Pv j σ' H' → tb { D with nx := Pv (j + 1), ct := Pv (j + 1), bk := D.nx } (σ'.set i (some (.int (j : Nat)))) H') ∧ ∀ σ' H', Pv n σ' H' → D.nx σ' H') :
    tFor (iRng1 ta) (gName i) tb D σ H := by
  refine ha H (Same.refl H) _ fun vs H1 s1 hv => ?_
  obtain ⟨v, rfl, h1⟩ := dpA1 hv
  obtain ⟨Pv, p0, ps, pd⟩ := k H1 s1
  refine ⟨(n : Nat), by rw [dp_int h1], by omega, by omega, for_range (lo := 0) (n := n) Pv p0 (fun j σ' H' hj p => ?_) (fun σ' H' p => pd σ' H' p)⟩
  have e : (0 : Int) + (j : Nat) = (j : Nat) := by omega
  rw [e]
  exact ps j σ' H' hj p
end
end Ml

namespace Ml
open PySem PySem.Spec PyProof.Rows L2
/-! ### the rules with the written part by its own name (a block's, a try's body's context has the same one) -/
section
variable {X : Cx}
theorem kix_seq (K : Fr) (hK : X.K = K := by rfl) : IxR X (rIx K) := by subst hK; exact ix_seq
theorem kcall_len (K : Fr) (hK : X.K = K := by rfl) : CallR X (.builtin "len") (rLen0 K) := by subst hK; exact call_len0
theorem kcall_isi (K : Fr) (hK : X.K = K := by rfl) : CallR X (.builtin "isinstance") (rIsi K) := by subst hK; exact call_isi
theorem kop_eqD (K : Fr) (hu : X.A.units + 64 < cLine) (hK : X.K = K := by rfl) : OpR X (compareOp .Eq) (rEqD K) := by subst hK; exact op_eqD hu
theorem kop_neD (K : Fr) (hu : X.A.units + 64 < cLine) (hK : X.K = K := by rfl) : OpR X (compareOp .NotEq) (rNeD K) := by subst hK; exact op_neD hu
theorem kop_in (K : Fr) (hK : X.K = K := by rfl) : OpR X (compareOp .In) (rIn K false) := by subst hK; exact op_in_seq
theorem kop_notIn (K : Fr) (hK : X.K = K := by rfl) : OpR X (compareOp .NotIn) (rIn K true) := by subst hK; exact op_notIn_seq
theorem ksl_list (K : Fr) (hK : X.K = K := by rfl) : SlR X (rSlL K) := by subst hK; exact sl_list
theorem ksl_tup (K : Fr) (hK : X.K = K := by rfl) : SlR X (rSlA K) := by subst hK; exact sl_tupA
theorem kop_catA (K : Fr) (hK : X.K = K := by rfl) : OpR X (binaryOp .Add) (rCatA K) := by subst hK; exact op_catA
theorem kop_repT (K : Fr) (hK : X.K = K := by rfl) : OpR X (binaryOp .Mult) (rRepT K) := by subst hK; exact op_repT
def rListOf (K : Fr) : List V → Hp → VK → Prop := fun xs H Q => ∃ p ys, xs = [.ref p] ∧ (SqL K H p ys ∨ SqT K H p ys) ∧ ∀ l, H l = none → Q (.ref l) (upd H l (.lst ys))
theorem kcall_list (K : Fr) (hK : X.K = K := by rfl) : CallR X (.type "list") (rListOf K) := by subst hK; exact call_list_of
theorem kcr_sum (K : Fr) (hc : X.calm = true) (hK : X.K = K := by rfl) : CallR X (.builtin "sum") (rSum K) := by subst hK; exact cr_sum hc
end
section
variable {X : Cx} {e o a b value : Expr} {es : List Expr} {ta tb te to tl tv : TE} {t : TA} {f name : Str} {pos apos cpos pos' tpos p : Pos} {T id : String} {r : V → List V → Hp → VK → Prop} {tg : Expr}
theorem kpe_fld (K : Fr) (he : PE X e ta) (hK : X.K = K := by rfl) (hb : attributeBase e f X.env (eval e X.env) = eval e X.env := by rfl) : PE X (.Attribute e f pos) (tFld K ta f) := by subst hK; exact pe_fld he hb
theorem kpe_bm (K : Fr) (pa : PlainAttrs T) (slot : Slot T name id) (hty : typeOf (.builtin id) = pure (.type "method_descriptor")) (hm : MtR X id r) (ho : PE X o to) (ha : PA X (e :: es) t) (hK : X.K = K := by rfl)
    (hbase : attributeBase o name X.env (eval o X.env) = eval o X.env := by rfl)
    (hfew : ((backTo cpos (starEach (e :: es) X.env)).all (fun x => !x.1) && (backToKw cpos (keywordEach [] X.env)).all (fun x => x.1.isSome)
      && decide ((e :: es).length + ([] : List Keyword).length + (if ([] : List Keyword).isEmpty then 0 else 1) < 30)) = true := by rfl)
    (hline : (apos.endLine == cpos.line) = true := by rfl) (hs : starEach (e :: es) X.env = (false, eval e X.env) :: starEach es X.env := by rfl) (hplain : (backTo cpos (starEach es X.env)).any (·.1) = false := by rfl) :
    PE X (.Call (.Attribute o name apos) (e :: es) [] cpos) (tBM K T r to t) := by subst hK; exact pe_bm pa slot hty hm ho ha hbase hfew hline hs hplain
theorem kpe_bm0 (K : Fr) (pa : PlainAttrs T) (slot : Slot T name id) (hty : typeOf (.builtin id) = pure (.type "method_descriptor")) (hm : MtR X id r) (ho : PE X o to) (hK : X.K = K := by rfl)
    (hbase : attributeBase o name X.env (eval o X.env) = eval o X.env := by rfl) (hline : (apos.endLine == cpos.line) = true := by rfl) : PE X (.Call (.Attribute o name apos) [] [] cpos) (tBM0 K T r to) := by subst hK; exact pe_bm0 pa slot hty hm ho hbase hline
theorem kpe_notT (K : Fr) (ha : PE X a ta) (hK : X.K = K := by rfl) : PE X (.UnaryOp .Not a pos) (tNotT K ta) := by subst hK; exact pe_notT ha
/-- a test that is a value's truth -/
def tTru0 (K : Fr) (ta : TE) : TT := fun σ H Q => ta σ H fun x H' => ∃ k, TruV K x H' k ∧ Q k H'
theorem kpt_truth (K : Fr) (ha : PE X a ta) (hK : X.K = K := by rfl) (he : ∀ whole, isTrue a X.env whole = (do let v ← whole; standAt a.pos; holding [v] (truthy v)) := by intro _; rfl) : PT X a (tTru0 K ta) := by subst hK; exact pt_truth ha he
theorem kpi_list (K : Fr) (hl : PE X e tl) (hK : X.K = K := by rfl) : PI X tg e (iList K tl) := by subst hK; exact pi_list hl
theorem kpi_tup (K : Fr) (hl : PE X e tl) (hK : X.K = K := by rfl) : PI X tg e (iTup K tl) := by subst hK; exact pi_tup hl
theorem kps_fld (K : Fr) (ha : PE X o ta) (hv : PE X value tv) (hK : X.K = K := by rfl) (hs : swapsWith value (some (.Attribute o f pos')) pos.line X.env = pure false := by rfl) : PS X (.Assign [.Attribute o f pos'] value pos) (sFld K ta tv f) := by subst hK; exact ps_fld ha hv hs
theorem kps_fldaug (K : Fr) {op : Operator} {rd : V → V → Hp → VK → Prop} (ha : PE X o ta) (hv : PE X value tv) (hop : InOp X op rd) (hK : X.K = K := by rfl) : PS X (.AugAssign (.Attribute o f tpos) op value pos) (sFldAug K ta tv rd f) := by subst hK; exact ps_fldaug ha hv hop
theorem kpe_tupleOf (K : Fr) (hm : X.mg "tuple" = none) (ha : PE X a ta) (hK : X.K = K := by rfl) (hg : Gl X "tuple" := by rfl) (na : starEach [a] X.env = (false, eval a X.env) :: starEach [] X.env := by rfl) : PE X (.Call (.Name "tuple" p) [a] [] pos) (tThen ta (kTup K)) := by subst hK; exact pe_tupleOf hg hm ha na
def rJoin (K : Fr) : V → List V → Hp → VK → Prop := fun x xs H Q => ∃ a p, ∃ ys : List Str, x = .str a ∧ xs = [.ref p] ∧ (SqL K H p (ys.map V.str) ∨ SqT K H p (ys.map V.str)) ∧ (ys.map (·.length)).sum + ys.length * a.length ≤ 16777216 ∧ Q (.str (Txt.join a ys)) H
theorem kpe_join (K : Fr) (ho : PE X o to) (he : PE X e te) (hK : X.K = K := by rfl) (hs : starEach [e] X.env = [(false, eval e X.env)] := by rfl) (hbase : attributeBase o "join" X.env (eval o X.env) = eval o X.env := by rfl) (hline : (apos.endLine == pos.line) = true := by rfl) :
    PE X (.Call (.Attribute o "join" apos) [e] [] pos) (tM1 (rJoin K) to te) := by subst hK; exact pe_join ho he hs hbase hline
theorem kpg_tup (K : Fr) {es : List Expr} {k : Nat} {t : TGs} {n : Nat} (hc : X.calm = true) (h : PGs X es t) (hK : X.K = K := by rfl)
    (hn : (assignEach es X.env).length = n := by rfl) (hst : (assignEach es X.env).findIdx? (·.1) = none := by rfl) : PG X (.Tuple es k pos) (gTup K n t) := by subst hK; exact pg_tup hc h hn hst
end
/-- a law raises nothing -/
theorem FnOk_calm {P : Program} {w : World} {K : Fr} {mg : Str → Option Value} {base : Heap} {k : Nat} {f : Addr} {fd : FuncData} {ps : List Str} {sp : Sp} (F : FnOk P w K mg base (L2.CX P w) k f fd ps sp) (h : ∀ vs H Q E, sp vs H Q E → sp vs H Q E0) : FnOk P w K mg base CX0 k f fd ps sp := by
  refine ⟨F.len, fun A outer s H args us vs Q E hr he hb hv hs => codeAny_mono (F.run A outer s H args us vs Q E0 hr he hb hv (h _ _ _ _ hs)) fun r s' hq => ?_⟩
  cases r with
  | error e =>
    obtain ⟨_, _, _, _, _, _, _, _, _, _, _, _, z⟩ := hq
    exact z.elim
  | ok fl => cases fl <;> exact hq
end Ml

namespace Ml
open PySem PySem.Spec PyProof.Rows L2
def top (i : Nat) : Stmt := PySem.Challenge.pw_millshelf_k02_recipes.main.body.getD i (.Pass ⟨0, 0, 0, 0⟩)
abbrev s_is_within : Stmt := top 10
abbrev s_is_name : Stmt := top 11
abbrev s_look_value : Stmt := top 12
abbrev s_is_recipe : Stmt := top 13
abbrev s_look_recipe : Stmt := top 14
abbrev s_outcome : Stmt := top 15
abbrev s_made_of : Stmt := top 16
abbrev s__law_cell : Stmt := top 18
abbrev s__law_seed : Stmt := top 19
abbrev s__law_pick : Stmt := top 20
abbrev s__law_value : Stmt := top 21
abbrev s__law_outcome : Stmt := top 22
abbrev s_law : Stmt := top 23
def fa0 : List He.Fa := [.glo "is_within", .glo "is_name", .glo "look_value", .glo "is_recipe", .glo "look_recipe", .glo "outcome", .glo "made_of", .glo "_law_cell", .glo "_law_seed", .glo "_law_pick", .glo "_law_value", .glo "_law_outcome", .glo "law", .glo "MillError", .exc "MillError", .glo "BadValue", .exc "BadValue", .glo "BadRecipe", .exc "BadRecipe", .exm "MillError" "BadRecipe" false, .exm "BadValue" "BadRecipe" false, .exm "BadRecipe" "BadRecipe" true, .exm "MillError" "BadValue" false, .exm "BadValue" "BadValue" true, .exm "BadRecipe" "BadValue" false, .free "ValueError", .free "range", .free "tuple", .free "isinstance", .free "int", .free "str", .free "len", .free "list", .free "bool", .free "max", .str "SMALL" "abcdefghijklmnopqrstuvwxyz", .int "ROUND" 10000, .glo "WORDS", .int "MOST_PARTS" 3, .int "MOST_LONG" 9]
def fa : List He.Fa := fa0
def d_is_within : He.DefD := ⟨("is_within", none), "is_within", "is_within", defArgs s_is_within, defBody s_is_within, defScope s_is_within, [], []⟩
def d_is_name : He.DefD := ⟨("is_name", none), "is_name", "is_name", defArgs s_is_name, defBody s_is_name, defScope s_is_name, [], []⟩
def d_look_value : He.DefD := ⟨("look_value", none), "look_value", "look_value", defArgs s_look_value, defBody s_look_value, defScope s_look_value, [], []⟩
def d_is_recipe : He.DefD := ⟨("is_recipe", none), "is_recipe", "is_recipe", defArgs s_is_recipe, defBody s_is_recipe, defScope s_is_recipe, [], []⟩
def d_look_recipe : He.DefD := ⟨("look_recipe", none), "look_recipe", "look_recipe", defArgs s_look_recipe, defBody s_look_recipe, defScope s_look_recipe, [], []⟩
def d_outcome : He.DefD := ⟨("outcome", none), "outcome", "outcome", defArgs s_outcome, defBody s_outcome, defScope s_outcome, [], []⟩
def d_made_of : He.DefD := ⟨("made_of", none), "made_of", "made_of", defArgs s_made_of, defBody s_made_of, defScope s_made_of, [], []⟩
def d__law_cell : He.DefD := ⟨("_law_cell", none), "_law_cell", "_law_cell", defArgs s__law_cell, defBody s__law_cell, defScope s__law_cell, [], []⟩
def d__law_seed : He.DefD := ⟨("_law_seed", none), "_law_seed", "_law_seed", defArgs s__law_seed, defBody s__law_seed, defScope s__law_seed, [], []⟩
def d__law_pick : He.DefD := ⟨("_law_pick", none), "_law_pick", "_law_pick", defArgs s__law_pick, defBody s__law_pick, defScope s__law_pick, [], []⟩
def d__law_value : He.DefD := ⟨("_law_value", none), "_law_value", "_law_value", defArgs s__law_value, defBody s__law_value, defScope s__law_value, [], []⟩
def d__law_outcome : He.DefD := ⟨("_law_outcome", none), "_law_outcome", "_law_outcome", defArgs s__law_outcome, defBody s__law_outcome, defScope s__law_outcome, [], []⟩
def d_law : He.DefD := ⟨("law", none), "law", "law", defArgs s_law, defBody s_law, defScope s_law, [], []⟩
def fn0 : List He.DefD := [d_is_within, d_is_name, d_look_value, d_is_recipe, d_look_recipe, d_outcome, d_made_of, d__law_cell, d__law_seed, d__law_pick, d__law_value, d__law_outcome, d_law]
def fn : List He.DefD := fn0
def tv_WORDS : List He.Dv := [.str "sum", .str "most", .str "less", .str "over"]
def ts : List He.Tab := []
def exB (K : Fr) : Bool := He.tupB K "WORDS" tv_WORDS
/-- what the head tells: facts by names -/
structure Tx (w : World) (K : Fr) (mg : Str → Option Value) : Prop where
  says : He.SaysT fa fn ts w K
  more : exB K = true
  ns : ∃ h : Heap, K.In h ∧ h.Ns mainGlobals mg
section
variable {w : World} {K : Fr} {mg : Str → Option Value}
theorem Tx.sd (T : Tx w K mg) : He.SaysD fa fn K := congrArg (fun z : He.AlT => z.1) T.says
theorem Tx.ok (T : Tx w K mg) (i : Nat) {f : He.Fa} (h : fa[i]? = some f) : f.ok K = true := T.sd.fact i h
theorem Tx.def_ (T : Tx w K mg) (i : Nat) {d : He.DefD} (h : fn[i]? = some d) : ∃ fd, FunD K d.name d.qual d.params d.body d.scope (d.dvs K) (d.kws K) (He.fAd K d.at_) fd := T.sd.def_ i h
theorem Tx.gl (T : Tx w K mg) (i : Nat) {x : Str} (h : fa[i]? = some (.glo x)) : mg x = some (.ref (He.ga K x)) := by
  obtain ⟨hp, X, G⟩ := T.ns
  exact He.glo_ok X G (T.ok i h)
theorem Tx.fr (T : Tx w K mg) (i : Nat) {x : Str} (h : fa[i]? = some (.free x)) : mg x = none := by
  obtain ⟨hp, X, G⟩ := T.ns
  exact He.free_ok X G (T.ok i h)
theorem Tx.ki (T : Tx w K mg) (n : Nat) {x : Str} {i : Int} (h : fa[n]? = some (.int x i)) : ∃ t, mg x = some (.int i t) := by
  obtain ⟨hp, X, G⟩ := T.ns
  exact He.int_ok X G (T.ok n h)
theorem Tx.ks (T : Tx w K mg) (n : Nat) {x z : Str} (h : fa[n]? = some (.str x z)) : ∃ t, mg x = some (.str z t) := by
  obtain ⟨hp, X, G⟩ := T.ns
  exact He.str_ok X G (T.ok n h)
theorem Tx.g_is_within (T : Tx w K mg) : mg "is_within" = some (.ref (He.ga K "is_within")) := T.gl 0 rfl
theorem Tx.g_is_name (T : Tx w K mg) : mg "is_name" = some (.ref (He.ga K "is_name")) := T.gl 1 rfl
theorem Tx.g_look_value (T : Tx w K mg) : mg "look_value" = some (.ref (He.ga K "look_value")) := T.gl 2 rfl
theorem Tx.g_is_recipe (T : Tx w K mg) : mg "is_recipe" = some (.ref (He.ga K "is_recipe")) := T.gl 3 rfl
theorem Tx.g_look_recipe (T : Tx w K mg) : mg "look_recipe" = some (.ref (He.ga K "look_recipe")) := T.gl 4 rfl
theorem Tx.g_outcome (T : Tx w K mg) : mg "outcome" = some (.ref (He.ga K "outcome")) := T.gl 5 rfl
theorem Tx.g_made_of (T : Tx w K mg) : mg "made_of" = some (.ref (He.ga K "made_of")) := T.gl 6 rfl
theorem Tx.g__law_cell (T : Tx w K mg) : mg "_law_cell" = some (.ref (He.ga K "_law_cell")) := T.gl 7 rfl
theorem Tx.g__law_seed (T : Tx w K mg) : mg "_law_seed" = some (.ref (He.ga K "_law_seed")) := T.gl 8 rfl
theorem Tx.g__law_pick (T : Tx w K mg) : mg "_law_pick" = some (.ref (He.ga K "_law_pick")) := T.gl 9 rfl
theorem Tx.g__law_value (T : Tx w K mg) : mg "_law_value" = some (.ref (He.ga K "_law_value")) := T.gl 10 rfl
theorem Tx.g__law_outcome (T : Tx w K mg) : mg "_law_outcome" = some (.ref (He.ga K "_law_outcome")) := T.gl 11 rfl
theorem Tx.g_law (T : Tx w K mg) : mg "law" = some (.ref (He.ga K "law")) := T.gl 12 rfl
theorem Tx.g_MillError (T : Tx w K mg) : mg "MillError" = some (.ref (He.ga K "MillError")) := T.gl 13 rfl
theorem Tx.exc_MillError (T : Tx w K mg) : PySem.W.excIn K (He.ga K "MillError") He.veBase "ValueError.__new__" = true ∧ PySem.W.keepIn K (.ref (He.ga K "MillError")) = true ∧ PySem.W.subIn K (.ref (He.ga K "MillError")) (.type "BaseException") = some true ∧ PySem.W.typeIn K (.ref (He.ga K "MillError")) = some (.type "type") := He.exc_ok (T.ok 14 (f := .exc "MillError") rfl)
theorem Tx.g_BadValue (T : Tx w K mg) : mg "BadValue" = some (.ref (He.ga K "BadValue")) := T.gl 15 rfl
theorem Tx.exc_BadValue (T : Tx w K mg) : PySem.W.excIn K (He.ga K "BadValue") He.veBase "ValueError.__new__" = true ∧ PySem.W.keepIn K (.ref (He.ga K "BadValue")) = true ∧ PySem.W.subIn K (.ref (He.ga K "BadValue")) (.type "BaseException") = some true ∧ PySem.W.typeIn K (.ref (He.ga K "BadValue")) = some (.type "type") := He.exc_ok (T.ok 16 (f := .exc "BadValue") rfl)
theorem Tx.g_BadRecipe (T : Tx w K mg) : mg "BadRecipe" = some (.ref (He.ga K "BadRecipe")) := T.gl 17 rfl
theorem Tx.exc_BadRecipe (T : Tx w K mg) : PySem.W.excIn K (He.ga K "BadRecipe") He.veBase "ValueError.__new__" = true ∧ PySem.W.keepIn K (.ref (He.ga K "BadRecipe")) = true ∧ PySem.W.subIn K (.ref (He.ga K "BadRecipe")) (.type "BaseException") = some true ∧ PySem.W.typeIn K (.ref (He.ga K "BadRecipe")) = some (.type "type") := He.exc_ok (T.ok 18 (f := .exc "BadRecipe") rfl)
theorem Tx.exm_MillError_BadRecipe (T : Tx w K mg) : PySem.W.exmOne K (.ref (He.ga K "MillError")) (.ref (He.ga K "BadRecipe")) = some false := He.exm_ok (T.ok 19 (f := .exm "MillError" "BadRecipe" false) rfl)
theorem Tx.exm_BadValue_BadRecipe (T : Tx w K mg) : PySem.W.exmOne K (.ref (He.ga K "BadValue")) (.ref (He.ga K "BadRecipe")) = some false := He.exm_ok (T.ok 20 (f := .exm "BadValue" "BadRecipe" false) rfl)
theorem Tx.exm_BadRecipe_BadRecipe (T : Tx w K mg) : PySem.W.exmOne K (.ref (He.ga K "BadRecipe")) (.ref (He.ga K "BadRecipe")) = some true := He.exm_ok (T.ok 21 (f := .exm "BadRecipe" "BadRecipe" true) rfl)
theorem Tx.exm_MillError_BadValue (T : Tx w K mg) : PySem.W.exmOne K (.ref (He.ga K "MillError")) (.ref (He.ga K "BadValue")) = some false := He.exm_ok (T.ok 22 (f := .exm "MillError" "BadValue" false) rfl)
theorem Tx.exm_BadValue_BadValue (T : Tx w K mg) : PySem.W.exmOne K (.ref (He.ga K "BadValue")) (.ref (He.ga K "BadValue")) = some true := He.exm_ok (T.ok 23 (f := .exm "BadValue" "BadValue" true) rfl)
theorem Tx.exm_BadRecipe_BadValue (T : Tx w K mg) : PySem.W.exmOne K (.ref (He.ga K "BadRecipe")) (.ref (He.ga K "BadValue")) = some false := He.exm_ok (T.ok 24 (f := .exm "BadRecipe" "BadValue" false) rfl)
theorem Tx.f_ValueError (T : Tx w K mg) : mg "ValueError" = none := T.fr 25 rfl
theorem Tx.f_range (T : Tx w K mg) : mg "range" = none := T.fr 26 rfl
theorem Tx.f_tuple (T : Tx w K mg) : mg "tuple" = none := T.fr 27 rfl
theorem Tx.f_isinstance (T : Tx w K mg) : mg "isinstance" = none := T.fr 28 rfl
theorem Tx.f_int (T : Tx w K mg) : mg "int" = none := T.fr 29 rfl
theorem Tx.f_str (T : Tx w K mg) : mg "str" = none := T.fr 30 rfl
theorem Tx.f_len (T : Tx w K mg) : mg "len" = none := T.fr 31 rfl
theorem Tx.f_list (T : Tx w K mg) : mg "list" = none := T.fr 32 rfl
theorem Tx.f_bool (T : Tx w K mg) : mg "bool" = none := T.fr 33 rfl
theorem Tx.f_max (T : Tx w K mg) : mg "max" = none := T.fr 34 rfl
theorem Tx.k_SMALL (T : Tx w K mg) : ∃ t, mg "SMALL" = some (.str "abcdefghijklmnopqrstuvwxyz" t) := T.ks 35 rfl
theorem Tx.k_ROUND (T : Tx w K mg) : ∃ t, mg "ROUND" = some (.int 10000 t) := T.ki 36 rfl
theorem Tx.g_WORDS (T : Tx w K mg) : mg "WORDS" = some (.ref (He.ga K "WORDS")) := T.gl 37 rfl
theorem Tx.k_MOST_PARTS (T : Tx w K mg) : ∃ t, mg "MOST_PARTS" = some (.int 3 t) := T.ki 38 rfl
theorem Tx.k_MOST_LONG (T : Tx w K mg) : ∃ t, mg "MOST_LONG" = some (.int 9 t) := T.ki 39 rfl
theorem Tx.F_is_within (T : Tx w K mg) : ∃ fd, FnP K "is_within" "is_within" s_is_within (He.ga K "is_within") fd := T.def_ 0 (d := d_is_within) rfl
theorem Tx.F_is_name (T : Tx w K mg) : ∃ fd, FnP K "is_name" "is_name" s_is_name (He.ga K "is_name") fd := T.def_ 1 (d := d_is_name) rfl
theorem Tx.F_look_value (T : Tx w K mg) : ∃ fd, FnP K "look_value" "look_value" s_look_value (He.ga K "look_value") fd := T.def_ 2 (d := d_look_value) rfl
theorem Tx.F_is_recipe (T : Tx w K mg) : ∃ fd, FnP K "is_recipe" "is_recipe" s_is_recipe (He.ga K "is_recipe") fd := T.def_ 3 (d := d_is_recipe) rfl
theorem Tx.F_look_recipe (T : Tx w K mg) : ∃ fd, FnP K "look_recipe" "look_recipe" s_look_recipe (He.ga K "look_recipe") fd := T.def_ 4 (d := d_look_recipe) rfl
theorem Tx.F_outcome (T : Tx w K mg) : ∃ fd, FnP K "outcome" "outcome" s_outcome (He.ga K "outcome") fd := T.def_ 5 (d := d_outcome) rfl
theorem Tx.F_made_of (T : Tx w K mg) : ∃ fd, FnP K "made_of" "made_of" s_made_of (He.ga K "made_of") fd := T.def_ 6 (d := d_made_of) rfl
theorem Tx.F__law_cell (T : Tx w K mg) : ∃ fd, FnP K "_law_cell" "_law_cell" s__law_cell (He.ga K "_law_cell") fd := T.def_ 7 (d := d__law_cell) rfl
theorem Tx.F__law_seed (T : Tx w K mg) : ∃ fd, FnP K "_law_seed" "_law_seed" s__law_seed (He.ga K "_law_seed") fd := T.def_ 8 (d := d__law_seed) rfl
theorem Tx.F__law_pick (T : Tx w K mg) : ∃ fd, FnP K "_law_pick" "_law_pick" s__law_pick (He.ga K "_law_pick") fd := T.def_ 9 (d := d__law_pick) rfl
theorem Tx.F__law_value (T : Tx w K mg) : ∃ fd, FnP K "_law_value" "_law_value" s__law_value (He.ga K "_law_value") fd := T.def_ 10 (d := d__law_value) rfl
theorem Tx.F__law_outcome (T : Tx w K mg) : ∃ fd, FnP K "_law_outcome" "_law_outcome" s__law_outcome (He.ga K "_law_outcome") fd := T.def_ 11 (d := d__law_outcome) rfl
theorem Tx.F_law (T : Tx w K mg) : ∃ fd, FnP K "law" "law" s_law (He.ga K "law") fd := T.def_ 12 (d := d_law) rfl
theorem Tx.t_WORDS (T : Tx w K mg) (H : Hp) : SqT K H (He.ga K "WORDS") (tv_WORDS.map (He.Dv.v K)) := He.tupB_ok (show He.tupB K "WORDS" tv_WORDS = true from T.more) H
end
/-! ### recipes.py -/
def isWithin (x : PyData) (lo hi : Int) : Bool := match x with
  | .int i => decide (lo ≤ i) && decide (i ≤ hi)
  | _ => false
def sp_is_within (K : Fr) : Sp := PF K fun ds d => ∃ x lo hi, ds = [x, .int lo, .int hi] ∧ d = .bool (isWithin x lo hi)
theorem sc_is_within : FnScope ["thing", "low", "high"] ["thing", "low", "high"] (defScope s_is_within) := ⟨rfl, rfl, rfl, by decide +kernel, rfl, by decide +kernel, by decide +kernel⟩
theorem ok_is_within {P : Program} {w : World} {K : Fr} {mg : Str → Option Value} {base : Heap} (T : Tx w K mg) : FnX P w K mg base 1 (He.ga K "is_within") ["thing", "low", "high"] (sp_is_within K) := by
  refine fnX_of T.F_is_within sc_is_within (fun _ _ _ _ _ _ us hl => match us, hl with | [_, _, _], _ => rfl) (fun vs H Q E h => ?len) (fun cdv A outer s H vs Q E hr h => ⟨_, (pss_one (ps_ret (pe_and (pe_callB (kcall_isi K) rfl T.f_isinstance bb_isinstance (pa_cons (pv 0) (pa_cons (pe_ty T.f_int bb_int) pa_nil))) (pe_and (pe_not (pe_callB (kcall_isi K) rfl T.f_isinstance bb_isinstance (pa_cons (pv 0) (pa_cons (pe_ty T.f_bool bb_bool) pa_nil)))) (pe_one (pe_chain op_le op_le (pv 1) (pv 0) (pv 2))))))), ?body⟩)
  case len =>
    obtain ⟨ds, d, h1, ⟨x, lo, hi, rfl, rfl⟩, _⟩ := h
    exact dpA_len h1
  case body =>
    obtain ⟨ds, d, h1, ⟨x, lo, hi, rfl, rfl⟩, hQ⟩ := h
    obtain ⟨v1, v2, v3, rfl, a1, a2, a3⟩ := dpA3 h1
    refine s_ret (K := K) (d := .bool (isWithin x lo hi)) ?_ hQ
    refine ei_and (ei_isInt (ei_var rfl a1)) (fun hi => ei_and (ei_notV (ei_isBool (ei_var rfl a1))) (fun hb => ?_) fun hb => ?_) fun hi => ?_
    · cases x with
      | int i => exact ei_chainLe (ei_var rfl a2) (ei_var rfl a1) (ei_var rfl a3)
      | bool b => cases hb
      | _ => cases hi
    · cases x with
      | int i => cases hb
      | _ => rfl
    · cases x with
      | int i => cases hi
      | _ => rfl
def SM : Str := "abcdefghijklmnopqrstuvwxyz"
def isName : PyData → Bool
  | .str z => (decide ((1 : Int) ≤ (z.length : Nat)) && decide (((z.length : Nat) : Int) ≤ 4)) && (z.cps.toList.all fun c => decide (c ∈ SM.cps.toList))
  | _ => false
def strSmall : PyData → Bool
  | .str z => decide (z.length ≤ 100000)
  | _ => true
theorem fm_empty {α : Type} {p : α → Bool} {g : α → PyData} : ∀ {xs : List α}, (fm p g xs).isEmpty = xs.all fun x => !p x
  | [] => rfl
  | x :: xs => by
    have ih := fm_empty (p := p) (g := g) (xs := xs)
    unfold fm at ih ⊢
    rw [List.all_cons, ← ih]
    cases h : p x with
    | true => simp [h]
    | false => simp [h]
def sp_is_name (K : Fr) : Sp := PF K fun ds d => ∃ x, ds = [x] ∧ strSmall x = true ∧ d = .bool (isName x)
theorem sc_is_name : FnScope ["thing", "sign"] ["thing"] (defScope s_is_name) := ⟨rfl, rfl, rfl, by decide +kernel, rfl, by decide +kernel, by decide +kernel⟩
theorem ok_is_name {P : Program} {w : World} {K : Fr} {mg : Str → Option Value} {base : Heap} (T : Tx w K mg) : FnX P w K mg base 1 (He.ga K "is_name") ["thing"] (sp_is_name K) := by
  refine fnX_of T.F_is_name sc_is_name (fun _ _ _ _ _ _ us hl => match us, hl with | [_], _ => rfl) (fun vs H Q E h => ?len) (fun cdv A outer s H vs Q E hr h => ⟨_, (pss_one (ps_ret (pe_and (pe_callB (kcall_isi K) rfl T.f_isinstance bb_isinstance (pa_cons (pv 0) (pa_cons (pe_ty T.f_str bb_str) pa_nil))) (pe_and (pe_chain op_le op_le pe_int (pe_callB (kcall_len K) rfl T.f_len bb_len (pa_cons (pv 0) pa_nil)) pe_int) (pe_one (kpe_notT K (pe_lc (own := [("sign", 1)]) rfl sc_is_name.nd (pi_str (pv 0)) (blkOk_by (own := [("sign", 1)]) (N := ["thing", "sign"]) (sc := defScope s_is_name) (by decide +kernel)) (fun _ _ _ _ _ => (pg_name (i := 1) sc_is_name.nd rfl (by first | exact Or.inl rfl | exact Or.inr rfl))) (fun _ _ _ _ _ => (pts_one (pt_cmpR op_nsgn (pv 1) (pe_gstr T.k_SMALL) rfl))) (fun _ _ _ _ _ => (pv 1))))))))), ?body⟩)
  case len =>
    obtain ⟨ds, d, h1, ⟨x, rfl, _, rfl⟩, _⟩ := h
    exact dpA_len h1
  case body =>
    obtain ⟨ds, d, h1, ⟨x, rfl, hx, rfl⟩, hQ⟩ := h
    obtain ⟨v1, rfl, a1⟩ := dpA1 h1
    refine s_ret (K := K) (d := .bool (isName x)) ?_ hQ
    refine ei_and (ei_isStr (ei_var rfl a1)) (fun hi => ?_) fun hi => ?_
    · cases x with
      | str z =>
        have hz : z.length ≤ 100000 := of_decide_eq_true hx
        refine ei_and (ei_chainLe ei_int (ei_len (ei_var rfl a1) hx) ei_int) (fun hb => ?_) (fun hb => ?_)
        · refine EI.of_eq (ei_notL (el_lcS (i := 1) (fun c => !decide (c ∈ SM.cps.toList)) (fun c => .str ⟨#[c]⟩) (ei_var rfl a1) hz fun c hc H1 s1 => ⟨?_, fun _ => ⟨?_, rfl⟩⟩)) ?_
          · exact et_test (ei_nsgn (ei_var rfl (.str _)) ei_str)
          · exact ei_var rfl (.str _)
          · rw [fm_empty]
            simp only [Bool.not_not]
            have hb2 : (decide ((1 : Int) ≤ (z.length : Nat)) && decide (((z.length : Nat) : Int) ≤ 4)) = true := hb
            show _ = PyData.bool ((decide ((1 : Int) ≤ (z.length : Nat)) && decide (((z.length : Nat) : Int) ≤ 4)) && _)
            rw [hb2, Bool.true_and]
        · have hb2 : (decide ((1 : Int) ≤ (z.length : Nat)) && decide (((z.length : Nat) : Int) ≤ 4)) = false := hb
          show PyData.bool ((decide ((1 : Int) ≤ (z.length : Nat)) && decide (((z.length : Nat) : Int) ≤ 4)) && _) = _
          rw [hb2, Bool.false_and]
      | _ => cases hi
    · cases x with
      | str z => cases hi
      | _ => rfl
def sp_look_value (K : Fr) : Sp := PR K fun ds r => ∃ x, ds = [x] ∧ r = if isWithin x 0 9999 = true then .ok .none else .error "BadValue"
theorem sc_look_value : FnScope ["thing"] ["thing"] (defScope s_look_value) := ⟨rfl, rfl, rfl, by decide +kernel, rfl, by decide +kernel, by decide +kernel⟩
theorem ok_look_value {P : Program} {w : World} {K : Fr} {mg : Str → Option Value} {base : Heap} (T : Tx w K mg) : FnX P w K mg base 2 (He.ga K "look_value") ["thing"] (sp_look_value K) := by
  refine fnX_of T.F_look_value sc_look_value (fun _ _ _ _ _ _ us hl => match us, hl with | [_], _ => rfl) (fun vs H Q E h => ?len) (fun cdv A outer s H vs Q E hr h => ⟨_, (pss_one (ps_if (pt_not (pt_val (pe_f (ok_is_within T) (hr.mono (by decide)) T.g_is_within (pass_of rfl rfl rfl rfl) (pa_cons (pv 0) (pa_cons pe_int (pa_cons (pe_op op_sub (pe_gint T.k_ROUND) pe_int) pa_nil)))))) (pss_one (ps_raise rfl (takes_of rfl rfl rfl rfl) (pmk_own PySem.F.excBase_ValueError T.exc_BadValue.1 T.g_BadValue T.exc_BadValue.2.1 (raises_own T.exc_BadValue.2.2.1 T.exc_BadValue.2.2.2) rfl))) pss_nil)), ?body⟩)
  case len =>
    obtain ⟨ds, d, h1, ⟨x, rfl, rfl⟩, _⟩ := h
    exact dpA_len h1
  case body =>
    obtain ⟨ds, d, h1, ⟨x, rfl, rfl⟩, hQ⟩ := h
    obtain ⟨v1, rfl, a1⟩ := dpA1 h1
    have t1 : EI K _ _ _ _ := ei_call (R := fun ds d => ∃ x lo hi, ds = [x, .int lo, .int hi] ∧ d = .bool (isWithin x lo hi)) (E := E) (ea_cons (ei_var (σ := start ["thing"] [v1]) (i := 0) rfl a1) (ea_cons (ei_int (i := 0)) (ea_cons (ei_sub (ei_int (i := 10000)) (ei_int (i := 1))) ea_nil))) ⟨_, _, _, rfl, rfl⟩
    cases hw : isWithin x 0 9999 with
    | true =>
      rw [if_pos hw] at hQ
      refine s_ifF (et_not (et_B (EI.of_eq t1 (by show PyData.bool (isWithin x 0 9999) = _; rw [hw])))) fun H' s1 => ?_
      exact hQ .non H' s1 .non
    | false =>
      rw [if_neg (by rw [hw]; decide)] at hQ
      refine s_ifT (et_not (et_B (EI.of_eq t1 (by show PyData.bool (isWithin x 0 9999) = _; rw [hw])))) fun H' s1 => ?_
      exact hQ H' s1

/-! ### recipes.py, further -/
def wordsD : List PyData := [.str "sum", .str "most", .str "less", .str "over"]
def isRecipe : PyData → Bool
  | .tuple [.str w, .tuple ps, n] => inD (.str w) wordsD && ((decide ((1 : Int) ≤ (ps.length : Nat)) && decide (((ps.length : Nat) : Int) ≤ 3)) && (ps.all isName && isWithin n 1 9))
  | _ => false
def recSmall : PyData → Bool
  | .tuple [_, .tuple ps, _] => decide (ps.length ≤ 100000) && ps.all strSmall
  | _ => true
theorem three_of {α : Type} {l : List α} (h : l.length = 3) : ∃ a b c, l = [a, b, c] := by
  match l, h with
  | [a, b, c], _ => exact ⟨a, b, c, rfl⟩
theorem ei_WORDS {w : World} {K : Fr} {mg : Str → Option Value} {σ : L2.St} {H : Hp} (T : Tx w K mg) : EI K (tC (.ref (He.ga K "WORDS"))) σ H (.tuple wordsD) :=
  ei_c fun H => .tup (T.t_WORDS H) (.cons (.str _) (.cons (.str _) (.cons (.str _) (.cons (.str _) .nil))))
theorem filter_empty {p : PyData → Bool} : ∀ {xs : List PyData}, (xs.filter p).isEmpty = xs.all fun x => !p x
  | [] => rfl
  | x :: xs => by
    have ih := filter_empty (p := p) (xs := xs)
    rw [List.all_cons, ← ih]
    cases h : p x with
    | true => simp [h]
    | false => simp [h]
def sp_is_recipe (K : Fr) : Sp := PF K fun ds d => ∃ x, ds = [x] ∧ recSmall x = true ∧ d = .bool (isRecipe x)
theorem sc_is_recipe : FnScope ["thing", "one"] ["thing"] (defScope s_is_recipe) := ⟨rfl, rfl, rfl, by decide +kernel, rfl, by decide +kernel, by decide +kernel⟩
theorem ok_is_recipe {P : Program} {w : World} {K : Fr} {mg : Str → Option Value} {base : Heap} (T : Tx w K mg) : FnX P w K mg base 2 (He.ga K "is_recipe") ["thing"] (sp_is_recipe K) := by
  refine fnX_of T.F_is_recipe sc_is_recipe (fun _ _ _ _ _ _ us hl => match us, hl with | [_], _ => rfl) (fun vs H Q E h => ?len) (fun cdv A outer s H vs Q E hr h => ⟨_, (pss_cons (ps_if (PW.pt (pw_or (pt_not (pt_val (pe_callB (kcall_isi K) rfl T.f_isinstance bb_isinstance (pa_cons (pv 0) (pa_cons (pe_ty T.f_tuple bb_tuple) pa_nil))))) (pw_or (pt_cmpR op_ne (pe_callB (kcall_len K) rfl T.f_len bb_len (pa_cons (pv 0) pa_nil)) pe_int (nomark _)) (pw_or (pt_not (pt_val (pe_callB (kcall_isi K) rfl T.f_isinstance bb_isinstance (pa_cons (pe_ix (kix_seq K) (pv 0) pe_int (fun _ _ => rfl)) (pa_cons (pe_ty T.f_str bb_str) pa_nil))))) (pw_or1 (pt_cmpR (kop_notIn K) (pe_ix (kix_seq K) (pv 0) pe_int (fun _ _ => rfl)) (pe_gref T.g_WORDS) (by rfl))))))) (pss_one (ps_ret pe_bl)) pss_nil)
  (pss_cons (ps_if (PW.pt (pw_or (pt_not (pt_val (pe_callB (kcall_isi K) rfl T.f_isinstance bb_isinstance (pa_cons (pe_ix (kix_seq K) (pv 0) pe_int (fun _ _ => rfl)) (pa_cons (pe_ty T.f_tuple bb_tuple) pa_nil))))) (pw_or1 (pt_not (pt_chain op_le op_le pe_int (pe_callB (kcall_len K) rfl T.f_len bb_len (pa_cons (pe_ix (kix_seq K) (pv 0) pe_int (fun _ _ => rfl)) pa_nil)) (pe_gint T.k_MOST_PARTS)))))) (pss_one (ps_ret pe_bl)) pss_nil)
  (pss_one (ps_ret (pe_and (kpe_notT K (pe_lc (own := [("one", 1)]) rfl sc_is_recipe.nd (kpi_tup K (pe_ix (kix_seq K) (pv 0) pe_int (fun _ _ => rfl))) (blkOk_by (own := [("one", 1)]) (N := ["thing", "one"]) (sc := defScope s_is_recipe) (by decide +kernel)) (fun _ _ _ _ _ => (pg_name (i := 1) sc_is_recipe.nd rfl (by first | exact Or.inl rfl | exact Or.inr rfl))) (fun _ _ _ _ _ => (pts_one (pt_not (pt_val (pe_f (ok_is_name T) (hr.mono (by decide)) T.g_is_name passL (pa_cons (pv 1) pa_nil)))))) (fun _ _ _ _ _ => (pv 1)))) (pe_one (pe_f (ok_is_within T) (hr.mono (by decide)) T.g_is_within (pass_of rfl rfl rfl rfl) (pa_cons (pe_ix (kix_seq K) (pv 0) pe_int (fun _ _ => rfl)) (pa_cons pe_int (pa_cons (pe_gint T.k_MOST_LONG) pa_nil)))))))))), ?body⟩)
  case len =>
    obtain ⟨ds, d, h1, ⟨x, rfl, _, rfl⟩, _⟩ := h
    exact dpA_len h1
  case body =>
    obtain ⟨ds, d, h1, ⟨x, rfl, hx, rfl⟩, hQ⟩ := h
    obtain ⟨v1, rfl, a1⟩ := dpA1 h1
    have no : ∀ (σ : L2.St) H', Same H H' → isRecipe x = false → tRet (tC (.bl false)) { nx := fun _ H' => Q .non H', rt := Q } σ H' := fun σ H' s e => s_ret (K := K) (ei_bl) fun v H2 s2 hv => hQ v H2 (s.trans s2) (by rw [e]; exact hv)
    by_cases hT : ∃ ds, x = .tuple ds
    · obtain ⟨ds, rfl⟩ := hT
      have e0 : EI K (tVar 0) (start ["thing", "one"] [v1]) H (.tuple ds) := ei_var rfl a1
      have t0 : ET K _ _ H false := et_not (et_B (ei_isTup e0))
      by_cases hl : ds.length = 3
      · obtain ⟨a, b, c, rfl⟩ := three_of hl
        have t1 : ET K _ _ H false := et_test (EI.of_eq (ei_neI (ei_len e0 rfl) (ei_int (i := 3))) rfl)
        have ea : EI K _ _ H a := ei_ixT e0 (ei_int (i := 0)) rfl
        have eb : EI K _ _ H b := ei_ixT e0 (ei_int (i := 1)) rfl
        have ec : EI K _ _ H c := ei_ixT e0 (ei_int (i := 2)) rfl
        by_cases hS : ∃ z, a = .str z
        · obtain ⟨z, rfl⟩ := hS
          have t2 : ET K _ _ H false := et_not (et_B (ei_isStr ea))
          have t3 : ET K _ _ H (!inD (.str z) wordsD) := et_test (ei_ni (ds := wordsD) ea (ei_WORDS T) rfl rfl rfl)
          cases hW : inD (.str z) wordsD with
          | false =>
            rw [hW] at t3
            refine s_seq (s_ifT (et_orF t0 (et_orF t1 (et_orF t2 t3))) fun H' s1 => no _ H' s1 ?_)
            unfold isRecipe
            split
            · rename_i heq
              cases heq
              rw [hW]
              rfl
            · rfl
          | true =>
            rw [hW] at t3
            refine s_seq (s_ifF (et_orF t0 (et_orF t1 (et_orF t2 t3))) fun H1 s1 => ?_)
            by_cases hB : ∃ ps, b = .tuple ps
            · obtain ⟨ps, rfl⟩ := hB
              have hps : (decide (ps.length ≤ 100000) && ps.all strSmall) = true := hx
              obtain ⟨hp1, hp2⟩ := Bool.and_eq_true_iff.mp hps
              have t4 : ET K _ _ H false := et_not (et_B (ei_isTup eb))
              have t5 : ET K _ _ H (!(decide ((1 : Int) ≤ (ps.length : Nat)) && decide (((ps.length : Nat) : Int) ≤ 3))) := et_not (et_test (ei_chainLe (ei_int (i := 1)) (ei_len eb rfl) (ei_int (i := 3))))
              cases hN : (decide ((1 : Int) ≤ (ps.length : Nat)) && decide (((ps.length : Nat) : Int) ≤ 3)) with
              | false =>
                rw [hN] at t5
                refine s_seq (s_ifT ((et_orF t4 t5).mono s1) fun H' s2 => no _ H' (s1.trans s2) ?_)
                show (inD (.str z) wordsD && ((decide ((1 : Int) ≤ (ps.length : Nat)) && decide (((ps.length : Nat) : Int) ≤ 3)) && _)) = false
                rw [hN, Bool.false_and, Bool.and_false]
              | true =>
                rw [hN] at t5
                refine s_seq (s_ifF ((et_orF t4 t5).mono s1) fun H2 s2 => ?_)
                have e5 : isRecipe (.tuple [.str z, .tuple ps, c]) = (ps.all isName && isWithin c 1 9) := by
                  show (inD (.str z) wordsD && ((decide ((1 : Int) ≤ (ps.length : Nat)) && decide (((ps.length : Nat) : Int) ≤ 3)) && _)) = _
                  rw [hW, hN, Bool.true_and, Bool.true_and]
                have L : EL K _ (start ["thing", "one"] [v1]) H (ps.filter fun x => !isName x) := el_lcV (tt := _) (i := 1) (fun x => !isName x) (by show 1 < 2; decide) eb (of_decide_eq_true hp1) fun y hy v H3 s3 hv =>
                  et_not (et_B (ei_call (R := fun ds d => ∃ x, ds = [x] ∧ strSmall x = true ∧ d = .bool (isName x)) (E := E0) (ea_cons (ei_var (i := 1) rfl hv) ea_nil) ⟨y, rfl, List.all_eq_true.mp hp2 y hy, rfl⟩))
                have R1 : EI K _ (start ["thing", "one"] [v1]) H (.bool (ps.all isName && isWithin c 1 9)) :=
                  ei_andB (EI.of_eq (ei_notL L) (by rw [filter_empty]; simp only [Bool.not_not])) fun _ => ei_call (R := fun ds d => ∃ x lo hi, ds = [x, .int lo, .int hi] ∧ d = .bool (isWithin x lo hi)) (E := E) (ea_cons ec (ea_cons (ei_int (i := 1)) (ea_cons (ei_int (i := 9)) ea_nil))) ⟨_, _, _, rfl, rfl⟩
                exact s_ret (R1.mono (s1.trans s2)) fun v H3 s3 hv => hQ v H3 ((s1.trans s2).trans s3) (by rw [e5]; exact hv)
            · have t4 : ET K _ _ H true := et_not (et_B (EI.of_eq (ei_isTup eb) (show PyData.bool (isTup b) = .bool false from by cases b with | tuple ps => exact absurd ⟨ps, rfl⟩ hB | _ => rfl)))
              refine s_seq (s_ifT ((et_orT t4).mono s1) fun H' s2 => no _ H' (s1.trans s2) ?_)
              cases b with
              | tuple ps => exact absurd ⟨ps, rfl⟩ hB
              | _ => rfl
        · have t2 : ET K _ _ H true := et_not (et_B (EI.of_eq (ei_isStr ea) (show PyData.bool (isStr a) = .bool false from by cases a with | str z => exact absurd ⟨z, rfl⟩ hS | _ => rfl)))
          refine s_seq (s_ifT (et_orF t0 (et_orF t1 (et_orT t2))) fun H' s1 => no _ H' s1 ?_)
          cases a with
          | str z => exact absurd ⟨z, rfl⟩ hS
          | _ => rfl
      · have t1 : ET K _ _ H true := et_test (EI.of_eq (ei_neI (ei_len e0 rfl) (ei_int (i := 3))) (by
          show PyData.bool (!decide (((ds.length : Nat) : Int) = 3)) = .bool true
          rw [decide_eq_false (by omega)]
          rfl))
        refine s_seq (s_ifT (et_orF t0 (et_orT t1)) fun H' s1 => no _ H' s1 ?_)
        unfold isRecipe
        split
        · rename_i heq
          cases heq
          exact absurd rfl hl
        · rfl
    · have t0 : ET K _ _ H true := et_not (et_B (EI.of_eq (ei_isTup (ei_var (i := 0) (σ := start ["thing", "one"] [v1]) rfl a1)) (show PyData.bool (isTup x) = .bool false from by cases x with | tuple ps => exact absurd ⟨ps, rfl⟩ hT | _ => rfl)))
      refine s_seq (s_ifT (et_orT t0) fun H' s1 => no _ H' s1 ?_)
      cases x with
      | tuple ps => exact absurd ⟨ps, rfl⟩ hT
      | _ => rfl

def sp_look_recipe (K : Fr) : Sp := PR K fun ds r => ∃ x, ds = [x] ∧ recSmall x = true ∧ r = if isRecipe x = true then .ok .none else .error "BadRecipe"
theorem sc_look_recipe : FnScope ["thing"] ["thing"] (defScope s_look_recipe) := ⟨rfl, rfl, rfl, by decide +kernel, rfl, by decide +kernel, by decide +kernel⟩
theorem ok_look_recipe {P : Program} {w : World} {K : Fr} {mg : Str → Option Value} {base : Heap} (T : Tx w K mg) : FnX P w K mg base 3 (He.ga K "look_recipe") ["thing"] (sp_look_recipe K) := by
  refine fnX_of T.F_look_recipe sc_look_recipe (fun _ _ _ _ _ _ us hl => match us, hl with | [_], _ => rfl) (fun vs H Q E h => ?len) (fun cdv A outer s H vs Q E hr h => ⟨_, (pss_one (ps_if (pt_not (pt_val (pe_f (ok_is_recipe T) (hr.mono (by decide)) T.g_is_recipe (pass_of rfl rfl rfl rfl) (pa_cons (pv 0) pa_nil)))) (pss_one (ps_raise rfl (takes_of rfl rfl rfl rfl) (pmk_own PySem.F.excBase_ValueError T.exc_BadRecipe.1 T.g_BadRecipe T.exc_BadRecipe.2.1 (raises_own T.exc_BadRecipe.2.2.1 T.exc_BadRecipe.2.2.2) rfl))) pss_nil)), ?body⟩)
  case len =>
    obtain ⟨ds, d, h1, ⟨x, rfl, _, rfl⟩, _⟩ := h
    exact dpA_len h1
  case body =>
    obtain ⟨ds, d, h1, ⟨x, rfl, hx, rfl⟩, hQ⟩ := h
    obtain ⟨v1, rfl, a1⟩ := dpA1 h1
    have t1 : EI K _ _ _ _ := ei_call (R := fun ds d => ∃ x, ds = [x] ∧ recSmall x = true ∧ d = .bool (isRecipe x)) (E := E) (ea_cons (ei_var (σ := start ["thing"] [v1]) (i := 0) rfl a1) ea_nil) ⟨_, rfl, hx, rfl⟩
    cases hw : isRecipe x with
    | true =>
      rw [if_pos hw] at hQ
      refine s_ifF (et_not (et_B (EI.of_eq t1 (by rw [hw])))) fun H' s1 => ?_
      exact hQ .non H' s1 .non
    | false =>
      rw [if_neg (by rw [hw]; decide)] at hQ
      refine s_ifT (et_not (et_B (EI.of_eq t1 (by rw [hw])))) fun H' s1 => ?_
      exact hQ H' s1
/-- a value, or None -/
def ov : Option Int → PyData
  | none => .none
  | some i => .int i
def outStep (w : Str) (acc v : Int) : Option Int :=
  if w = "sum" then some ((acc + v) % 10000) else if w = "most" then some (max acc v) else if w = "less" then some (max 0 (acc - v)) else if v = 0 then none else some (acc / v)
def outFold (w : Str) : Int → List Int → Option Int
  | acc, [] => some acc
  | acc, v :: r => match outStep w acc v with
    | none => none
    | some a => outFold w a r
def allInts : List (Option Int) → Option (List Int)
  | [] => some []
  | none :: _ => none
  | some i :: r => (allInts r).map (i :: ·)
def outcome (w : Str) (vs : List (Option Int)) : Option Int := match allInts vs with
  | some (x :: r) => outFold w x r
  | _ => none
theorem ov_flat (v : Option Int) : flatD (ov v) = true := by cases v <;> rfl
theorem ov_imm (v : Option Int) : imm (ov v) = true := by cases v <;> rfl
theorem ovs_flat : ∀ vs : List (Option Int), (vs.map ov).all flatD = true
  | [] => rfl
  | v :: vs => by rw [List.map_cons, List.all_cons, ov_flat, ovs_flat vs]; rfl
theorem none_in : ∀ vs : List (Option Int), inD .none (vs.map ov) = (allInts vs).isNone
  | [] => rfl
  | none :: vs => rfl
  | some i :: vs => by
    have ih := none_in vs
    unfold inD at ih ⊢
    rw [List.map_cons, List.any_cons, ih]
    show (false || (allInts vs).isNone) = ((allInts vs).map (i :: ·)).isNone
    cases allInts vs <;> rfl
theorem allInts_some : ∀ {vs : List (Option Int)} {is : List Int}, allInts vs = some is → vs = is.map some
  | [], is, h => by cases h; rfl
  | none :: _, _, h => by cases h
  | some i :: r, is, h => by
    have h2 : (allInts r).map (i :: ·) = some is := h
    cases e : allInts r with
    | none => rw [e] at h2; cases h2
    | some js =>
      rw [e] at h2
      have h3 : i :: js = is := Option.some.inj h2
      rw [← h3, allInts_some e]
      rfl
/-- the values that a recipe may be of -/
def valsOk (is : List (Option Int)) : Prop := ∀ i, some i ∈ is → 0 ≤ i ∧ i ≤ 9999
def sp_outcome (K : Fr) : Sp := PF K fun ds d => ∃ w vs, ds = [.str w, .tuple (vs.map ov)] ∧ vs ≠ [] ∧ valsOk vs ∧ d = ov (outcome w vs)
theorem immAll_ints (is : List Int) : immAll (is.map PyData.int) = true := immAll_of fun x hx => by
  obtain ⟨i, _, rfl⟩ := List.mem_map.mp hx
  rfl
theorem map_ov_some (is : List Int) : (is.map some).map ov = is.map PyData.int := by rw [List.map_map]; rfl
theorem sc_outcome : FnScope ["word", "values", "found", "value"] ["word", "values"] (defScope s_outcome) := ⟨rfl, rfl, rfl, by decide +kernel, rfl, by decide +kernel, by decide +kernel⟩
theorem ok_outcome {P : Program} {w : World} {K : Fr} {mg : Str → Option Value} {base : Heap} (T : Tx w K mg) : FnX P w K mg base 1 (He.ga K "outcome") ["word", "values"] (sp_outcome K) := by
  refine fnX_of T.F_outcome sc_outcome (fun _ _ _ _ _ _ us hl => match us, hl with | [_, _], _ => rfl) (fun vs H Q E h => ?len) (fun cdv A outer s H vs Q E hr h => ⟨_, (pss_cons (ps_if (pt_cmpR (kop_in K) pe_non (pv 1) (by rfl)) (pss_one (ps_ret pe_non)) pss_nil)
  (pss_cons (ps_set (i := 2) sc_outcome.nd rfl (by first | exact Or.inl rfl | exact Or.inr rfl) (pe_ix (kix_seq K) (pv 1) pe_int (fun _ _ => rfl)))
  (pss_cons (ps_for (passes_of rfl) rfl (kpi_tup K (pe_slice (ksl_tup K) (pv 1) (po_some pe_int) po_none)) (pg_name (i := 3) sc_outcome.nd rfl (by first | exact Or.inl rfl | exact Or.inr rfl)) (pss_one (ps_if (pt_cmpR op_eq (pv 0) pe_str (nomark _)) (pss_one (ps_set (i := 2) sc_outcome.nd rfl (by first | exact Or.inl rfl | exact Or.inr rfl) (pe_op op_mod (pe_op op_add (pv 2) (pv 3)) (pe_gint T.k_ROUND)))) (pss_one (ps_if (pt_cmpR op_eq (pv 0) pe_str (nomark _)) (pss_one (ps_set (i := 2) sc_outcome.nd rfl (by first | exact Or.inl rfl | exact Or.inr rfl) (pe_callB (call_mx2 rfl) rfl T.f_max bb_max (pa_cons (pv 2) (pa_cons (pv 3) pa_nil))))) (pss_one (ps_if (pt_cmpR op_eq (pv 0) pe_str (nomark _)) (pss_one (ps_set (i := 2) sc_outcome.nd rfl (by first | exact Or.inl rfl | exact Or.inr rfl) (pe_callB (call_mx2 rfl) rfl T.f_max bb_max (pa_cons pe_int (pa_cons (pe_op op_sub (pv 2) (pv 3)) pa_nil))))) (pss_one (ps_if (pt_cmpR op_eq (pv 3) pe_int (nomark _)) (pss_one (ps_ret pe_non)) (pss_one (ps_set (i := 2) sc_outcome.nd rfl (by first | exact Or.inl rfl | exact Or.inr rfl) (pe_op op_fdiv (pv 2) (pv 3)))))))))))))
  (pss_one (ps_ret (pv 2)))))), ?body⟩)
  case len =>
    obtain ⟨ds, d, h1, ⟨w, vs, rfl, _⟩, _⟩ := h
    exact dpA_len h1
  case body =>
    obtain ⟨ds, d, h1, ⟨w, vs, rfl, hne, hok, rfl⟩, hQ⟩ := h
    obtain ⟨v1, v2, rfl, a1, a2⟩ := dpA2 h1
    have t0 : ET K _ (start ["word", "values", "found", "value"] [v1, v2]) H (inD .none (vs.map ov)) := et_test (ei_in (ds := vs.map ov) ei_non (ei_var (i := 1) rfl a2) rfl rfl (ovs_flat vs))
    rw [none_in] at t0
    cases hi : allInts vs with
    | none =>
      rw [hi] at t0
      have e : outcome w vs = none := by unfold outcome; rw [hi]
      rw [e] at hQ
      exact s_seq (s_ifT t0 fun H' s1 => s_ret (K := K) ei_non fun v H2 s2 hv => hQ v H2 (s1.trans s2) hv)
    | some is =>
      rw [hi] at t0
      have ev := allInts_some hi
      subst ev
      rw [map_ov_some] at a2
      cases is with
      | nil => exact absurd rfl hne
      | cons x r =>
        have e : outcome w ((x :: r).map some) = outFold w x r := by unfold outcome; rw [hi]
        rw [e] at hQ
        have dw := dp_str a1
        subst dw
        refine s_seq (s_ifF t0 fun H1 s1 => ?_)
        refine s_seq (s_set (K := K) (d := .int x) (ei_ixT (ei_var (i := 1) rfl (dp_same s1 _ _ a2)) ei_int (atI_nat (j := 0) rfl)) fun v H2 s2 hv => ?_)
        have dv := dp_int hv
        subst dv
        have s12 := s1.trans s2
        refine s_seq (s_forT (K := K) (ds := r.map PyData.int) (ei_from (n := 1) (ei_var (i := 1) rfl (dp_same s12 _ _ a2)) ei_int) (immAll_ints r) fun H3 s3 => ?_)
        refine ⟨fun j σ' H' => ∃ acc y, σ' = [some (.str w), some v2, some (.int acc), y] ∧ Same H3 H' ∧ outFold w acc (r.drop j) = outFold w x r, ⟨x, none, rfl, Same.refl _, rfl⟩, fun j σ' H' ⟨_, _, _, s, _⟩ => keepT_same s, ?_, ?_⟩
        · rintro j x' v σ' H' hx hv ⟨acc, y, rfl, s4, hf⟩
          obtain ⟨i, hj, rfl⟩ : ∃ i, r[j]? = some i ∧ x' = .int i := by
            rw [List.getElem?_map] at hx
            cases e : r[j]? with
            | none => rw [e] at hx; cases hx
            | some i => rw [e] at hx; exact ⟨i, rfl, (Option.some.inj hx).symm⟩
          have dv := dp_int hv
          subst dv
          have hd : r.drop j = i :: r.drop (j + 1) := by
            obtain ⟨h1, h2⟩ := List.getElem?_eq_some_iff.mp hj
            rw [List.drop_eq_getElem_cons h1, h2]
          have hi9 : 0 ≤ i ∧ i ≤ 9999 := hok i (List.mem_map.mpr ⟨i, List.mem_cons_of_mem _ (List.mem_of_getElem? hj), rfl⟩)
          rw [hd] at hf
          have hf2 : (match outStep w acc i with | none => none | some a => outFold w a (r.drop (j + 1))) = outFold w x r := hf
          unfold outStep at hf2
          have et : ∀ (z : Str) (σ : L2.St) (H : Hp), σ[0]? = some (some (.str w)) → ET K (tTest (tOp rEq (tVar 0) (tC (.str z)))) σ H (decide (w = z)) := fun z σ H hσ => et_test (ei_eqS (ei_var (i := 0) hσ (.str w)) ei_str)
          have fin : ∀ H2 a y, Same H' H2 → outFold w a (r.drop (j + 1)) = outFold w x r → ∃ acc y', ([some (.str w), some v2, some (.int a), y] : L2.St) = [some (.str w), some v2, some (.int acc), y'] ∧ Same H3 H2 ∧ outFold w acc (r.drop (j + 1)) = outFold w x r := fun H2 a y s e => ⟨a, y, rfl, s4.trans s, e⟩
          by_cases c1 : w = "sum"
          · rw [if_pos c1] at hf2
            refine s_ifT (ET.of_eq (et "sum" _ _ rfl) (decide_eq_true c1)) fun H4 s5 => ?_
            refine s_set (K := K) (ei_mod (ei_add (ei_var (i := 2) rfl (.int acc)) (ei_var (i := 3) rfl (.int i))) ei_int (by decide)) fun v H5 s6 hv => ?_
            have dv := dp_int hv
            subst dv
            exact fin H5 _ _ (s5.trans s6) hf2
          · rw [if_neg c1] at hf2
            refine s_ifF (ET.of_eq (et "sum" _ _ rfl) (decide_eq_false c1)) fun H4 s5 => ?_
            by_cases c2 : w = "most"
            · rw [if_pos c2] at hf2
              refine s_ifT (ET.of_eq (et "most" _ _ rfl) (decide_eq_true c2)) fun H6 s6 => ?_
              refine s_set (K := K) (ei_max (ei_var (i := 2) rfl (.int acc)) (ei_var (i := 3) rfl (.int i))) fun v H7 s7 hv => ?_
              have dv := dp_int hv
              subst dv
              exact fin H7 _ _ ((s5.trans s6).trans s7) hf2
            · rw [if_neg c2] at hf2
              refine s_ifF (ET.of_eq (et "most" _ _ rfl) (decide_eq_false c2)) fun H6 s6 => ?_
              by_cases c3 : w = "less"
              · rw [if_pos c3] at hf2
                refine s_ifT (ET.of_eq (et "less" _ _ rfl) (decide_eq_true c3)) fun H7 s7 => ?_
                refine s_set (K := K) (ei_max ei_int (ei_sub (ei_var (i := 2) rfl (.int acc)) (ei_var (i := 3) rfl (.int i)))) fun v H8 s8 hv => ?_
                have dv := dp_int hv
                subst dv
                exact fin H8 _ _ (((s5.trans s6).trans s7).trans s8) hf2
              · rw [if_neg c3] at hf2
                refine s_ifF (ET.of_eq (et "less" _ _ rfl) (decide_eq_false c3)) fun H7 s7 => ?_
                have ez : ∀ (σ : L2.St) (H : Hp), σ[3]? = some (some (.int i)) → ET K (tTest (tOp rEq (tVar 3) (tC (.int 0)))) σ H (decide (i = 0)) := fun σ H hσ => et_test (ei_eqI (ei_var (i := 3) hσ (.int i)) ei_int)
                by_cases c4 : i = 0
                · rw [if_pos c4] at hf2
                  refine s_ifT (ET.of_eq (ez _ _ rfl) (decide_eq_true c4)) fun H8 s8 => ?_
                  refine s_ret (K := K) ei_non fun v H9 s9 hv => ?_
                  rw [← hf2] at hQ
                  exact hQ v H9 (s12.trans (s3.trans (s4.trans (((s5.trans s6).trans s7).trans (s8.trans s9))))) hv
                · rw [if_neg c4] at hf2
                  refine s_ifF (ET.of_eq (ez _ _ rfl) (decide_eq_false c4)) fun H8 s8 => ?_
                  refine s_set (K := K) (ei_fdiv (ei_var (i := 2) rfl (.int acc)) (ei_var (i := 3) rfl (.int i)) ⟨by omega, by omega⟩) fun v H9 s9 hv => ?_
                  have dv := dp_int hv
                  subst dv
                  exact fin H9 _ _ ((((s5.trans s6).trans s7).trans s8).trans s9) hf2
        · rintro σ' H' ⟨acc, y, rfl, s4, hf⟩
          rw [List.length_map, List.drop_length] at hf
          have hf2 : some acc = outFold w x r := hf
          rw [← hf2] at hQ
          exact s_ret (K := K) (d := .int acc) (ei_var (i := 2) rfl (.int acc)) fun v H5 s5 hv => hQ v H5 (s12.trans (s3.trans (s4.trans s5))) hv

def valOk (d : PyData) : Bool := isNone d || isWithin d 0 9999
def toOpt : PyData → Option Int
  | .int i => some i
  | _ => none
theorem valOk_ov {d : PyData} (h : valOk d = true) : d = ov (toOpt d) := by
  cases d with
  | none => rfl
  | int i => rfl
  | _ => cases h
theorem valOk_all : ∀ {vs : List PyData}, vs.all valOk = true → vs = (vs.map toOpt).map ov
  | [], _ => rfl
  | d :: vs, h => by
    rw [List.all_cons, Bool.and_eq_true] at h
    show d :: vs = ov (toOpt d) :: (vs.map toOpt).map ov
    rw [← valOk_ov h.1, ← valOk_all h.2]
theorem valOk_vals {vs : List PyData} (h : vs.all valOk = true) : valsOk (vs.map toOpt) := fun i hi => by
  obtain ⟨d, hd, e⟩ := List.mem_map.mp hi
  have h2 := List.all_eq_true.mp h d hd
  cases d with
  | int j =>
    have e2 : j = i := Option.some.inj e
    subst e2
    have h3 : (false || (decide (0 ≤ j) && decide (j ≤ 9999))) = true := h2
    rw [Bool.false_or, Bool.and_eq_true, decide_eq_true_eq, decide_eq_true_eq] at h3
    exact h3
  | _ => cases e
def madeOf (x y : PyData) : Except Str PyData := if isRecipe x = true then (match x, y with
  | .tuple [.str w, .tuple ps, _], .tuple vs => if vs.length = ps.length then (if vs.all valOk = true then .ok (ov (outcome w (vs.map toOpt))) else .error "BadValue") else .error "BadValue"
  | _, _ => .error "BadValue") else .error "BadRecipe"
theorem recipe_of {x : PyData} (h : isRecipe x = true) : ∃ w ps n, x = .tuple [.str w, .tuple ps, n] ∧ inD (.str w) wordsD = true ∧ (1 ≤ ps.length ∧ ps.length ≤ 3) ∧ ps.all isName = true ∧ isWithin n 1 9 = true := by
  unfold isRecipe at h
  split at h
  · rename_i w ps n
    rw [Bool.and_eq_true, Bool.and_eq_true, Bool.and_eq_true, Bool.and_eq_true, decide_eq_true_eq, decide_eq_true_eq] at h
    obtain ⟨h1, ⟨h2, h3⟩, h4, h5⟩ := h
    exact ⟨w, ps, n, rfl, h1, ⟨by omega, by omega⟩, h4, h5⟩
  · cases h
def sp_made_of (K : Fr) : Sp := PR K fun ds r => ∃ x y, ds = [x, y] ∧ recSmall x = true ∧ (∀ vs, y = .tuple vs → immAll vs = true ∧ vs.length ≤ 1000) ∧ r = madeOf x y
theorem s_callOk {K : Fr} {σ : L2.St} {H : Hp} {D : Ends} {R : List PyData → Except Str PyData → Prop} {E : XK} {ta : TA} {ds : List PyData} {d : PyData} (h : EA K ta σ H ds) (hr : R ds (.ok d)) (k : ∀ H', Same H H' → D.nx σ H') : tDrop (tCall (PR K R) [] E ta) D σ H :=
  h H (Same.refl H) _ fun vs H2 s2 hv => ⟨ds, .ok d, by rw [List.append_nil]; exact hv, hr, fun v H3 s3 hd => k H3 (s2.trans s3)⟩
theorem s_callErr {K : Fr} {σ : L2.St} {H : Hp} {D : Ends} {R : List PyData → Except Str PyData → Prop} {E : XK} {ta : TA} {ds : List PyData} {c : Str} (h : EA K ta σ H ds) (hr : R ds (.error c)) (k : ∀ H', Same H H' → E (.ref (He.ga K c)) none H') : tDrop (tCall (PR K R) [] E ta) D σ H :=
  h H (Same.refl H) _ fun vs H2 s2 hv => ⟨ds, .error c, by rw [List.append_nil]; exact hv, hr, fun H3 s3 => k H3 (s2.trans s3)⟩
theorem sc_made_of : FnScope ["recipe", "values", "value"] ["recipe", "values"] (defScope s_made_of) := ⟨rfl, rfl, rfl, by decide +kernel, rfl, by decide +kernel, by decide +kernel⟩
theorem ok_made_of {P : Program} {w : World} {K : Fr} {mg : Str → Option Value} {base : Heap} (T : Tx w K mg) : FnX P w K mg base 4 (He.ga K "made_of") ["recipe", "values"] (sp_made_of K) := by
  refine fnX_of T.F_made_of sc_made_of (fun _ _ _ _ _ _ us hl => match us, hl with | [_, _], _ => rfl) (fun vs H Q E h => ?len) (fun cdv A outer s H vs Q E hr h => ⟨_, (pss_cons (ps_expr (pe_f (ok_look_recipe T) (hr.mono (by decide)) T.g_look_recipe (pass_of rfl rfl rfl rfl) (pa_cons (pv 0) pa_nil)))
  (pss_cons (ps_if (PW.pt (pw_or (pt_not (pt_val (pe_callB (kcall_isi K) rfl T.f_isinstance bb_isinstance (pa_cons (pv 1) (pa_cons (pe_ty T.f_tuple bb_tuple) pa_nil))))) (pw_or1 (pt_cmpR op_ne (pe_callB (kcall_len K) rfl T.f_len bb_len (pa_cons (pv 1) pa_nil)) (pe_callB (kcall_len K) rfl T.f_len bb_len (pa_cons (pe_ix (kix_seq K) (pv 0) pe_int (fun _ _ => rfl)) pa_nil)) (nomark _))))) (pss_one (ps_raise rfl (takes_of rfl rfl rfl rfl) (pmk_own PySem.F.excBase_ValueError T.exc_BadValue.1 T.g_BadValue T.exc_BadValue.2.1 (raises_own T.exc_BadValue.2.2.1 T.exc_BadValue.2.2.2) rfl))) pss_nil)
  (pss_cons (ps_for (passes_of rfl) rfl (kpi_tup K (pv 1)) (pg_name (i := 2) sc_made_of.nd rfl (by first | exact Or.inl rfl | exact Or.inr rfl)) (pss_one (ps_if (pt_cmpR op_notN0 (pv 2) pe_non (nomark _)) (pss_one (ps_expr (pe_f (ok_look_value T) (hr.mono (by decide)) T.g_look_value (pass_of rfl rfl rfl rfl) (pa_cons (pv 2) pa_nil)))) pss_nil)))
  (pss_one (ps_ret (pe_f (ok_outcome T) (hr.mono (by decide)) T.g_outcome (pass_of rfl rfl rfl rfl) (pa_cons (pe_ix (kix_seq K) (pv 0) pe_int (fun _ _ => rfl)) (pa_cons (pv 1) pa_nil)))))))), ?body⟩)
  case len =>
    obtain ⟨ds, d, h1, ⟨x, y, rfl, _⟩, _⟩ := h
    exact dpA_len h1
  case body =>
    try dsimp only [cxOf]
    obtain ⟨ds, d, h1, ⟨x, y, rfl, hx, hy, rfl⟩, hQ⟩ := h
    obtain ⟨v1, v2, rfl, a1, a2⟩ := dpA2 h1
    have e1 : EI K (tVar 0) (start ["recipe", "values", "value"] [v1, v2]) H x := ei_var rfl a1
    have e2 : EI K (tVar 1) (start ["recipe", "values", "value"] [v1, v2]) H y := ei_var rfl a2
    cases hR : isRecipe x with
    | false =>
      have em : madeOf x y = .error "BadRecipe" := by unfold madeOf; rw [if_neg (by rw [hR]; decide)]
      rw [em] at hQ
      exact s_seq (s_callErr (K := K) (c := "BadRecipe") (ea_cons e1 ea_nil) ⟨x, rfl, hx, by rw [hR, if_neg (by decide)]⟩ fun H' s => hQ H' s)
    | true =>
      refine s_seq (s_callOk (K := K) (d := .none) (ea_cons e1 ea_nil) ⟨x, rfl, hx, by rw [hR, if_pos rfl]⟩ fun H1 s1 => ?_)
      dsimp only
      obtain ⟨w, ps, n, rfl, hw, hl, hp, hn⟩ := recipe_of hR
      have ep : EI K _ (start ["recipe", "values", "value"] [v1, v2]) H (.tuple ps) := ei_ixT e1 (ei_int (i := 1)) rfl
      by_cases hT : ∃ vs, y = .tuple vs
      · obtain ⟨vs, rfl⟩ := hT
        obtain ⟨him, hvl⟩ := hy vs rfl
        have t0 : ET K _ _ H false := et_not (et_B (ei_isTup e2))
        have t1 : ET K _ _ H (!decide (((vs.length : Nat) : Int) = (ps.length : Nat))) := et_test (ei_neI (ei_len e2 rfl) (ei_len ep rfl))
        by_cases hE : vs.length = ps.length
        · rw [decide_eq_true (by omega)] at t1
          refine s_seq (s_ifF ((et_orF t0 t1).mono s1) fun H2 s2 => ?_)
          dsimp only
          have s12 := s1.trans s2
          by_cases hA : vs.all valOk = true
          · have em : madeOf (.tuple [.str w, .tuple ps, n]) (.tuple vs) = .ok (ov (outcome w (vs.map toOpt))) := by
              unfold madeOf
              rw [if_pos hR]
              show (if vs.length = ps.length then (if vs.all valOk = true then _ else _) else _) = _
              rw [if_pos hE, if_pos hA]
            rw [em] at hQ
            refine s_seq (s_forT (K := K) (e2.mono s12) him fun H3 s3 => ?_)
            refine ⟨fun j σ' H' => ∃ y, σ' = [some v1, some v2, y] ∧ Same H3 H', ⟨none, rfl, Same.refl _⟩, fun j σ' H' ⟨_, _, s⟩ => keepT_same s, ?_, ?_⟩
            · rintro j x' v σ' H' hx' hv ⟨y, rfl, s4⟩
              have hv2 : EI K (tVar 2) (([some v1, some v2, y] : L2.St).set 2 (some v)) H' x' := ei_var rfl hv
              have hok := List.all_eq_true.mp hA x' (List.mem_of_getElem? hx')
              cases hN : isNone x' with
              | true => exact s_ifF (et_test (EI.of_eq (ei_notN hv2) (by rw [hN]; rfl))) fun H5 s5 => ⟨_, rfl, s4.trans s5⟩
              | false =>
                refine s_ifT (et_test (EI.of_eq (ei_notN hv2) (by rw [hN]; rfl))) fun H5 s5 => ?_
                unfold valOk at hok
                rw [hN, Bool.false_or] at hok
                exact s_callOk (K := K) (d := .none) (ea_cons (hv2.mono s5) ea_nil) ⟨x', rfl, by rw [if_pos hok]⟩ fun H6 s6 => ⟨_, rfl, (s4.trans s5).trans s6⟩
            · rintro σ' H' ⟨y, rfl, s4⟩
              dsimp only
              have s14 := s12.trans (s3.trans s4)
              have ev := valOk_all hA
              refine s_ret (K := K) (d := ov (outcome w (vs.map toOpt))) (ei_call (R := fun ds d => ∃ w vs, ds = [.str w, .tuple (vs.map ov)] ∧ vs ≠ [] ∧ valsOk vs ∧ d = ov (outcome w vs)) (ds := [.str w, .tuple vs]) ?_ ⟨w, vs.map toOpt, by rw [← ev], ?_, valOk_vals hA, rfl⟩) fun v H5 s5 hv => hQ v H5 (s14.trans s5) hv
              · exact ea_cons (ei_ixT (ei_var (i := 0) rfl (dp_same s14 _ _ a1)) ei_int rfl) (ea_cons (ei_var (i := 1) rfl (dp_same s14 _ _ a2)) ea_nil)
              · intro z
                have : (vs.map toOpt).length = 0 := by rw [z]; rfl
                rw [List.length_map] at this
                omega
          · have em : madeOf (.tuple [.str w, .tuple ps, n]) (.tuple vs) = .error "BadValue" := by
              unfold madeOf
              rw [if_pos hR]
              show (if vs.length = ps.length then (if vs.all valOk = true then _ else _) else _) = _
              rw [if_pos hE, if_neg hA]
            rw [em] at hQ
            refine s_seq (s_forT (K := K) (e2.mono s12) him fun H3 s3 => ?_)
            refine ⟨fun j σ' H' => (∃ y, σ' = [some v1, some v2, y]) ∧ Same H3 H' ∧ (vs.take j).all valOk = true, ⟨⟨none, rfl⟩, Same.refl _, rfl⟩, fun j σ' H' ⟨_, s, _⟩ => keepT_same s, ?_, ?_⟩
            · rintro j x' v σ' H' hx' hv ⟨⟨y, rfl⟩, s4, ha⟩
              have hv2 : EI K (tVar 2) (([some v1, some v2, y] : L2.St).set 2 (some v)) H' x' := ei_var rfl hv
              have nxt : valOk x' = true → (vs.take (j + 1)).all valOk = true := fun z => by
                rw [take_snoc hx', List.all_append, ha]
                simp [z]
              cases hN : isNone x' with
              | true => exact s_ifF (et_test (EI.of_eq (ei_notN hv2) (by rw [hN]; rfl))) fun H5 s5 => ⟨⟨_, rfl⟩, s4.trans s5, nxt (by unfold valOk; rw [hN]; rfl)⟩
              | false =>
                refine s_ifT (et_test (EI.of_eq (ei_notN hv2) (by rw [hN]; rfl))) fun H5 s5 => ?_
                cases hW : isWithin x' 0 9999 with
                | true => exact s_callOk (K := K) (d := .none) (ea_cons (hv2.mono s5) ea_nil) ⟨x', rfl, by rw [if_pos hW]⟩ fun H6 s6 => ⟨⟨_, rfl⟩, (s4.trans s5).trans s6, nxt (by unfold valOk; rw [hW, Bool.or_true])⟩
                | false => exact s_callErr (K := K) (c := "BadValue") (ea_cons (hv2.mono s5) ea_nil) ⟨x', rfl, by rw [if_neg (by rw [hW]; decide)]⟩ fun H6 s6 => hQ H6 (s12.trans (s3.trans ((s4.trans s5).trans s6)))
            · rintro σ' H' ⟨_, s4, ha⟩
              rw [List.take_length] at ha
              exact absurd ha hA
        · have em : madeOf (.tuple [.str w, .tuple ps, n]) (.tuple vs) = .error "BadValue" := by
            unfold madeOf
            rw [if_pos hR]
            show (if vs.length = ps.length then (if vs.all valOk = true then _ else _) else _) = _
            rw [if_neg hE]
          rw [em] at hQ
          rw [decide_eq_false (by omega)] at t1
          exact s_seq (s_ifT ((et_orF t0 t1).mono s1) fun H2 s2 => hQ H2 (s1.trans s2))
      · have em : madeOf (.tuple [.str w, .tuple ps, n]) y = .error "BadValue" := by
          unfold madeOf
          rw [if_pos hR]
          cases y with
          | tuple vs => exact absurd ⟨vs, rfl⟩ hT
          | _ => rfl
        rw [em] at hQ
        have t0 : ET K _ _ H true := et_not (et_B (EI.of_eq (ei_isTup e2) (show PyData.bool (isTup y) = .bool false from by cases y with | tuple vs => exact absurd ⟨vs, rfl⟩ hT | _ => rfl)))
        exact s_seq (s_ifT ((et_orT t0).mono s1) fun H2 s2 => hQ H2 (s1.trans s2))

/-! ### the law's small defs -/
theorem atI_in {α : Type} {xs : List α} {i : Int} (h0 : 0 ≤ i) (h1 : i < (xs.length : Nat)) : atI xs i = xs[i.toNat]? := by
  unfold atI ixN
  rw [if_pos h0, if_pos h1]
  rfl
theorem atI_getD {α : Type} {xs : List α} {i : Int} (d : α) (h0 : 0 ≤ i) (h1 : i < (xs.length : Nat)) : atI xs i = some (xs.getD i.toNat d) := by
  rw [atI_in h0 h1]
  have h : i.toNat < xs.length := by omega
  rw [List.getElem?_eq_getElem h]
  simp [List.getD, List.getElem?_eq_getElem h]
def sp__law_cell (K : Fr) : Sp := PF K fun ds d => ∃ (ns : List Int) (k : Nat), ds = [.list (ns.map PyData.int), .int (k : Nat)] ∧ d = .int (ns.getD k 0)
theorem sc__law_cell : FnScope ["script", "k"] ["script", "k"] (defScope s__law_cell) := ⟨rfl, rfl, rfl, by decide +kernel, rfl, by decide +kernel, by decide +kernel⟩
theorem ok__law_cell {P : Program} {w : World} {K : Fr} {mg : Str → Option Value} {base : Heap} (T : Tx w K mg) : FnX P w K mg base 1 (He.ga K "_law_cell") ["script", "k"] (sp__law_cell K) := by
  refine fnX_of T.F__law_cell sc__law_cell (fun _ _ _ _ _ _ us hl => match us, hl with | [_, _], _ => rfl) (fun vs H Q E h => ?len) (fun cdv A outer s H vs Q E hr h => ⟨_, (pss_cons (ps_if (pt_cmpR op_lt (pv 1) (pe_callB (kcall_len K) rfl T.f_len bb_len (pa_cons (pv 0) pa_nil)) (nomark _)) (pss_one (ps_ret (pe_ix (kix_seq K) (pv 0) (pv 1) (fun _ _ => rfl)))) pss_nil)
  (pss_one (ps_ret pe_int))), ?body⟩)
  case len =>
    obtain ⟨ds, d, h1, ⟨ns, k, rfl, rfl⟩, _⟩ := h
    exact dpA_len h1
  case body =>
    try dsimp only [cxOf]
    obtain ⟨ds, d, h1, ⟨ns, k, rfl, rfl⟩, hQ⟩ := h
    obtain ⟨v1, v2, rfl, a1, a2⟩ := dpA2 h1
    have e1 : EI K (tVar 0) (start ["script", "k"] [v1, v2]) H _ := ei_var rfl a1
    have e2 : EI K (tVar 1) (start ["script", "k"] [v1, v2]) H _ := ei_var rfl a2
    have t : ET K _ _ H (decide (((k : Nat) : Int) < ((ns.map PyData.int).length : Nat))) := et_test (ei_lt e2 (ei_len e1 rfl))
    rw [List.length_map] at t
    by_cases hk : k < ns.length
    · rw [decide_eq_true (by omega)] at t
      refine s_seq (s_ifT t fun H1 s1 => ?_)
      refine s_ret (K := K) (d := .int (ns.getD k 0)) (EI.mono s1 (ei_ixL e1 e2 ?_)) fun v H2 s2 hv => hQ v H2 (s1.trans s2) hv
      rw [atI_in (by omega) (by rw [List.length_map]; omega), List.getElem?_map]
      have e : ((k : Nat) : Int).toNat = k := by omega
      rw [e, List.getElem?_eq_getElem hk]
      simp [List.getD, List.getElem?_eq_getElem hk]
    · rw [decide_eq_false (by omega)] at t
      refine s_seq (s_ifF t fun H1 s1 => ?_)
      dsimp only [tNext]
      refine s_ret (K := K) (d := .int 0) ei_int fun v H2 s2 hv => hQ v H2 (s1.trans s2) ?_
      have e : ns.getD k 0 = 0 := by simp [List.getD, List.getElem?_eq_none (Nat.le_of_not_lt hk)]
      rw [e]
      exact hv
def seedM (a k : Int) : Int := ((a * 1103515245 + 7919 * k + 12345) % 2147483647) ^ 5 % 2147483647
theorem seedM_lo (a k : Int) : 0 ≤ seedM a k := Int.emod_nonneg _ (by decide)
theorem seedM_hi (a k : Int) : seedM a k < 2147483647 := Int.emod_lt_of_pos _ (by decide)
def sp__law_seed (K : Fr) : Sp := PF K fun ds d => ∃ a k : Int, ds = [.int a, .int k] ∧ d = .int (seedM a k)
theorem sc__law_seed : FnScope ["seed", "k"] ["seed", "k"] (defScope s__law_seed) := ⟨rfl, rfl, rfl, by decide +kernel, rfl, by decide +kernel, by decide +kernel⟩
theorem ok__law_seed {P : Program} {w : World} {K : Fr} {mg : Str → Option Value} {base : Heap} (T : Tx w K mg) : FnX P w K mg base 1 (He.ga K "_law_seed") ["seed", "k"] (sp__law_seed K) := by
  refine fnX_of T.F__law_seed sc__law_seed (fun _ _ _ _ _ _ us hl => match us, hl with | [_, _], _ => rfl) (fun vs H Q E h => ?len) (fun cdv A outer s H vs Q E hr h => ⟨_, (pss_one (ps_ret (pe_op op_mod (pe_op op_pow (pe_op op_mod (pe_op op_add (pe_op op_add (pe_op op_mul (pv 0) pe_int) (pe_op op_mul pe_int (pv 1))) pe_int) pe_int) pe_int) pe_int))), ?body⟩)
  case len =>
    obtain ⟨ds, d, h1, ⟨a, k, rfl, rfl⟩, _⟩ := h
    exact dpA_len h1
  case body =>
    obtain ⟨ds, d, h1, ⟨a, k, rfl, rfl⟩, hQ⟩ := h
    obtain ⟨v1, v2, rfl, a1, a2⟩ := dpA2 h1
    refine s_ret (K := K) (d := .int (seedM a k)) ?_ hQ
    exact ei_mod (ei_pow (ei_mod (ei_add (ei_add (ei_mul (ei_var rfl a1) ei_int (.inr ⟨by decide, by decide⟩)) (ei_mul ei_int (ei_var rfl a2) (.inl ⟨by decide, by decide⟩))) ei_int) ei_int (by decide)) (ei_int (i := 5)) ⟨by decide, by decide, by omega⟩) ei_int (by decide)
def pickM (s m : Int) : Int := s / 97 % m
def sp__law_pick (K : Fr) : Sp := PF K fun ds d => ∃ s m : Int, ds = [.int s, .int m] ∧ 0 < m ∧ d = .int (pickM s m)
theorem sc__law_pick : FnScope ["seed", "many"] ["seed", "many"] (defScope s__law_pick) := ⟨rfl, rfl, rfl, by decide +kernel, rfl, by decide +kernel, by decide +kernel⟩
theorem ok__law_pick {P : Program} {w : World} {K : Fr} {mg : Str → Option Value} {base : Heap} (T : Tx w K mg) : FnX P w K mg base 1 (He.ga K "_law_pick") ["seed", "many"] (sp__law_pick K) := by
  refine fnX_of T.F__law_pick sc__law_pick (fun _ _ _ _ _ _ us hl => match us, hl with | [_, _], _ => rfl) (fun vs H Q E h => ?len) (fun cdv A outer s H vs Q E hr h => ⟨_, (pss_one (ps_ret (pe_op op_mod (pe_op op_fdiv (pv 0) pe_int) (pv 1)))), ?body⟩)
  case len =>
    obtain ⟨ds, d, h1, ⟨a, k, rfl, _, rfl⟩, _⟩ := h
    exact dpA_len h1
  case body =>
    obtain ⟨ds, d, h1, ⟨a, k, rfl, hk, rfl⟩, hQ⟩ := h
    obtain ⟨v1, v2, rfl, a1, a2⟩ := dpA2 h1
    refine s_ret (K := K) (d := .int (pickM a k)) ?_ hQ
    exact ei_mod (ei_fdiv (ei_var rfl a1) ei_int ⟨by decide, by decide⟩) (ei_var rfl a2) hk
def valueM (s : Int) : Int := [s / 7 % 5, s / 7 % 5, s / 7 % 10000, 9999 - s / 7 % 5].getD (pickM s 4).toNat 0
theorem valueM_ok (s : Int) : 0 ≤ valueM s ∧ valueM s ≤ 9999 := by
  have h : 0 ≤ pickM s 4 ∧ pickM s 4 < 4 := ⟨Int.emod_nonneg _ (by decide), Int.emod_lt_of_pos _ (by decide)⟩
  unfold valueM
  have h2 : (pickM s 4).toNat < 4 := by omega
  match e : (pickM s 4).toNat, h2 with
  | 0, _ => show 0 ≤ s / 7 % 5 ∧ s / 7 % 5 ≤ 9999; omega
  | 1, _ => show 0 ≤ s / 7 % 5 ∧ s / 7 % 5 ≤ 9999; omega
  | 2, _ => show 0 ≤ s / 7 % 10000 ∧ s / 7 % 10000 ≤ 9999; omega
  | 3, _ => show 0 ≤ 9999 - s / 7 % 5 ∧ 9999 - s / 7 % 5 ≤ 9999; omega
def sp__law_value (K : Fr) : Sp := PF K fun ds d => ∃ s : Int, ds = [.int s] ∧ d = .int (valueM s)
theorem getD_map_int (l : List Int) (n : Nat) : (l.map PyData.int).getD n (.int 0) = .int (l.getD n 0) := by
  simp only [List.getD, List.getElem?_map]
  cases l[n]? <;> rfl
theorem sc__law_value : FnScope ["seed"] ["seed"] (defScope s__law_value) := ⟨rfl, rfl, rfl, by decide +kernel, rfl, by decide +kernel, by decide +kernel⟩
theorem ok__law_value {P : Program} {w : World} {K : Fr} {mg : Str → Option Value} {base : Heap} (T : Tx w K mg) : FnX P w K mg base 2 (He.ga K "_law_value") ["seed"] (sp__law_value K) := by
  refine fnX_of T.F__law_value sc__law_value (fun _ _ _ _ _ _ us hl => match us, hl with | [_], _ => rfl) (fun vs H Q E h => ?len) (fun cdv A outer s H vs Q E hr h => ⟨_, (pss_one (ps_ret (pe_ix (kix_seq K) (pe_lst (pa_cons (pe_op op_mod (pe_op op_fdiv (pv 0) pe_int) pe_int) (pa_cons (pe_op op_mod (pe_op op_fdiv (pv 0) pe_int) pe_int) (pa_cons (pe_op op_mod (pe_op op_fdiv (pv 0) pe_int) pe_int) (pa_cons (pe_op op_sub pe_int (pe_op op_mod (pe_op op_fdiv (pv 0) pe_int) pe_int)) pa_nil))))) (pe_f (ok__law_pick T) (hr.mono (by decide)) T.g__law_pick (pass_of rfl rfl rfl rfl) (pa_cons (pv 0) (pa_cons pe_int pa_nil))) (fun _ _ => rfl)))), ?body⟩)
  case len =>
    obtain ⟨ds, d, h1, ⟨a, rfl, rfl⟩, _⟩ := h
    exact dpA_len h1
  case body =>
    try dsimp only [cxOf]
    obtain ⟨ds, d, h1, ⟨a, rfl, rfl⟩, hQ⟩ := h
    obtain ⟨v1, rfl, a1⟩ := dpA1 h1
    have e1 : EI K (tVar 0) (start ["seed"] [v1]) H (.int a) := ei_var rfl a1
    have e7 : ∀ m : Int, 0 < m → EI K (tOp (rI (fun _ j => 0 < j) fun i j => .int (i % j)) (tOp (rI CDiv fun i j => .int (i / j)) (tVar 0) (tC (.int 7))) (tC (.int m))) (start ["seed"] [v1]) H (.int (a / 7 % m)) := fun m hm => ei_mod (ei_fdiv e1 ei_int ⟨by decide, by decide⟩) ei_int hm
    have eL : EL K _ (start ["seed"] [v1]) H ([a / 7 % 5, a / 7 % 5, a / 7 % 10000, 9999 - a / 7 % 5].map PyData.int) := el_lst (ea_cons (e7 5 (by decide)) (ea_cons (e7 5 (by decide)) (ea_cons (e7 10000 (by decide)) (ea_cons (ei_sub (ei_int (i := 9999)) (e7 5 (by decide))) ea_nil)))) (by show 4 ≤ 100000; decide)
    have h : 0 ≤ pickM a 4 ∧ pickM a 4 < 4 := ⟨Int.emod_nonneg _ (by decide), Int.emod_lt_of_pos _ (by decide)⟩
    refine s_ret (K := K) (d := .int (valueM a)) (ei_ixL eL.ei (ei_call (R := fun ds d => ∃ s m : Int, ds = [.int s, .int m] ∧ 0 < m ∧ d = .int (pickM s m)) (ea_cons e1 (ea_cons (ei_int (i := 4)) ea_nil)) ⟨a, 4, rfl, by decide, rfl⟩) ?_) hQ
    rw [atI_getD (.int 0) h.1 (by show pickM a 4 < 4; exact h.2), getD_map_int]
    rfl
/-! _law_outcome is outcome -/
def lawFold (w : Str) : Option Int → List (Option Int) → Option Int
  | o, [] => o
  | some a, some v :: r => if w = "over" ∧ v = 0 then none else lawFold w (outStep w a v) r
  | _, _ :: _ => none
theorem lawFold_none (w : Str) : ∀ r : List (Option Int), lawFold w none r = none
  | [] => rfl
  | none :: _ => rfl
  | some _ :: _ => rfl
theorem outStep_over {w : Str} (hw : inD (.str w) wordsD = true) (h1 : ¬ w = "sum") (h2 : ¬ w = "most") (h3 : ¬ w = "less") : w = "over" := by
  unfold inD wordsD at hw
  simp only [List.any_cons, List.any_nil, Bool.or_false, Bool.or_eq_true, PyData.eqv, beq_iff_eq] at hw
  rcases hw with h | h | h | h
  · exact absurd h.symm h1
  · exact absurd h.symm h2
  · exact absurd h.symm h3
  · exact h.symm
theorem outStep_zero {w : Str} {a v : Int} (hw : inD (.str w) wordsD = true) (h : w = "over" ∧ v = 0) : outStep w a v = none := by
  obtain ⟨rfl, rfl⟩ := h
  unfold outStep
  rw [if_neg (by decide), if_neg (by decide), if_neg (by decide), if_pos rfl]
theorem lawFold_ints {w : Str} (hw : inD (.str w) wordsD = true) : ∀ (r : List Int) (a : Int), lawFold w (some a) (r.map some) = outFold w a r
  | [], a => rfl
  | v :: r, a => by
    show (if w = "over" ∧ v = 0 then none else lawFold w (outStep w a v) (r.map some)) = (match outStep w a v with | none => none | some a => outFold w a r)
    by_cases h : w = "over" ∧ v = 0
    · rw [if_pos h, outStep_zero hw h]
    · rw [if_neg h]
      cases e : outStep w a v with
      | none => exact lawFold_none w _
      | some b => exact lawFold_ints hw r b
theorem lawFold_no {w : Str} : ∀ (r : List (Option Int)) (o : Option Int), allInts r = none → lawFold w o r = none
  | [], o, h => by cases h
  | none :: r, o, _ => by cases o <;> rfl
  | some v :: r, none, _ => rfl
  | some v :: r, some a, h => by
    have h2 : (allInts r).map (v :: ·) = none := h
    have h3 : allInts r = none := by
      cases e : allInts r with
      | none => rfl
      | some x => rw [e] at h2; cases h2
    show (if w = "over" ∧ v = 0 then none else lawFold w (outStep w a v) r) = none
    rw [lawFold_no r _ h3]
    split <;> rfl
theorem lawFold_is {w : Str} (hw : inD (.str w) wordsD = true) (x : Option Int) (r : List (Option Int)) : lawFold w x r = outcome w (x :: r) := by
  unfold outcome
  cases x with
  | none => exact lawFold_none w r
  | some a =>
    show _ = (match (allInts r).map (a :: ·) with | some (x :: r) => outFold w x r | _ => none)
    cases e : allInts r with
    | none => exact lawFold_no r _ e
    | some is =>
      rw [allInts_some e]
      exact lawFold_ints hw is a

def sp__law_outcome (K : Fr) : Sp := PF K fun ds d => ∃ w vs, ds = [.str w, .tuple (vs.map ov)] ∧ vs ≠ [] ∧ inD (.str w) wordsD = true ∧ valsOk vs ∧ d = ov (outcome w vs)
theorem dp_ov {K : Fr} {H : Hp} {v : V} {o : Option Int} (h : Dp K H v (ov o)) : v = match o with | none => .non | some i => .int i := by
  cases o with
  | none => exact dp_non h
  | some i => exact dp_int h
/-- a display of three text keys and ints -/
theorem s_disp3 {K : Fr} {σ : L2.St} {H : Hp} {D : Ends} {i : Nat} {a b c : Str} {x y z : Int} {t1 t2 t3 : TE} (h1 : EI K t1 σ H (.int x)) (h2 : EI K t2 σ H (.int y)) (h3 : EI K t3 σ H (.int z))
    (k : ∀ p kvs H', Same H H' → H' p = some (.dK kvs) → (∀ j : Key, valV kvs j = if j = Sum.inr c then some (.int z) else if j = Sum.inr b then some (.int y) else if j = Sum.inr a then some (.int x) else none) → D.nx (σ.set i (some (.ref p))) H') :
    tAsg (tDisp [(tC (.str a), t1), (tC (.str b), t2), (tC (.str c), t3)]) (gName i) D σ H := by
  intro p hp
  refine h1 _ (Same.new hp) _ fun v1 H1 s1 d1 => ?_
  refine h2 _ ((Same.new hp).trans s1) _ fun v2 H2 s2 d2 => ?_
  refine h3 _ (((Same.new hp).trans s1).trans s2) _ fun v3 H3 s3 d3 => ?_
  cases dp_int d1
  cases dp_int d2
  cases dp_int d3
  have s13 := (s1.trans s2).trans s3
  refine ⟨s13 _ _ upd_same, [(Sum.inr a, .int x), (Sum.inr b, .int y), (Sum.inr c, .int z)], rfl, (by show 3 ≤ 15; decide), ?_⟩
  refine k p _ _ (Same.mut ((Same.new hp).trans s13) hp) upd_same fun j => ?_
  unfold mergeK
  rw [List.foldl_cons, List.foldl_cons, List.foldl_cons, List.foldl_nil, valV_put, valV_put, valV_put]
  rfl
theorem sc__law_outcome : FnScope ["word", "values", "found", "value", "some"] ["word", "values"] (defScope s__law_outcome) := ⟨rfl, rfl, rfl, by decide +kernel, rfl, by decide +kernel, by decide +kernel⟩
theorem ok__law_outcome {P : Program} {w : World} {K : Fr} {mg : Str → Option Value} {base : Heap} (T : Tx w K mg) : FnX P w K mg base 1 (He.ga K "_law_outcome") ["word", "values"] (sp__law_outcome K) := by
  refine fnX_of T.F__law_outcome sc__law_outcome (fun _ _ _ _ _ _ us hl => match us, hl with | [_, _], _ => rfl) (fun vs H Q E h => ?len) (fun cdv A outer s H vs Q E hr h => ⟨_, (pss_cons (ps_set (i := 2) sc__law_outcome.nd rfl (by first | exact Or.inl rfl | exact Or.inr rfl) (pe_ix (kix_seq K) (pv 1) pe_int (fun _ _ => rfl)))
  (pss_cons (ps_for (passes_of rfl) rfl (kpi_tup K (pe_slice (ksl_tup K) (pv 1) (po_some pe_int) po_none)) (pg_name (i := 3) sc__law_outcome.nd rfl (by first | exact Or.inl rfl | exact Or.inr rfl)) (pss_cons (ps_if (PW.pt (pw_or (pt_cmpR (kop_in K) pe_non (pe_tup (pa_cons (pv 2) (pa_cons (pv 3) pa_nil))) (by rfl)) (pw_or1 (PW.pt (pw_and (pt_cmpR op_eq (pv 0) pe_str (nomark _)) (pw_and1 (pt_cmpR op_eq (pv 3) pe_int (nomark _)))))))) (pss_one (ps_ret pe_non)) pss_nil)
  (pss_cons (ps_set (i := 4) sc__law_outcome.nd rfl (by first | exact Or.inl rfl | exact Or.inr rfl) (pe_disp (pps_cons pe_str (pe_op op_mod (pe_op op_add (pv 2) (pv 3)) pe_int) (pps_cons pe_str (pe_callB (call_mx2 rfl) rfl T.f_max bb_max (pa_cons (pv 2) (pa_cons (pv 3) pa_nil))) (pps_cons pe_str (pe_callB (call_mx2 rfl) rfl T.f_max bb_max (pa_cons (pe_op op_sub (pv 2) (pv 3)) (pa_cons pe_int pa_nil))) pps_nil))) (by rfl) (by rfl) (fun z => by cases z) (by decide)))
  (pss_one (ps_set (i := 2) sc__law_outcome.nd rfl (by first | exact Or.inl rfl | exact Or.inr rfl) (pe_ifExp (pt_cmp (pc_din (hu_of hr) (pv 0) (pv 4))) (pe_dget (hu_of hr) (pv 4) (pv 0) (fun _ _ => rfl)) (pe_op op_fdiv (pv 2) (pv 3))))))))
  (pss_one (ps_ret (pv 2))))), ?body⟩)
  case len =>
    obtain ⟨ds, d, h1, ⟨w, vs, rfl, _⟩, _⟩ := h
    exact dpA_len h1
  case body =>
    try dsimp only [cxOf]
    obtain ⟨ds, d, h1, ⟨w, vs, rfl, hne, hw, hok, rfl⟩, hQ⟩ := h
    obtain ⟨v1, v2, rfl, a1, a2⟩ := dpA2 h1
    cases vs with
    | nil => exact absurd rfl hne
    | cons x r =>
      have dw := dp_str a1
      subst dw
      rw [← lawFold_is hw] at hQ
      refine s_seq (s_set (K := K) (d := ov x) (ei_ixT (ei_var (i := 1) rfl a2) ei_int (atI_nat (j := 0) rfl)) fun v H2 s2 hv => ?_)
      dsimp only
      refine s_seq (s_forT (K := K) (ds := r.map ov) (ei_from (n := 1) (ei_var (i := 1) rfl (dp_same s2 _ _ a2)) ei_int) (immAll_of fun y hy => by obtain ⟨o, _, rfl⟩ := List.mem_map.mp hy; exact ov_imm o) fun H3 s3 => ?_)
      refine ⟨fun j σ' H' => ∃ o u y z, σ' = [some (.str w), some v2, some u, y, z] ∧ Dp K H' u (ov o) ∧ Same H3 H' ∧ lawFold w o (r.drop j) = lawFold w x r, ⟨x, v, none, none, rfl, dp_same s3 _ _ hv, Same.refl _, rfl⟩, fun j σ' H' ⟨_, _, _, _, _, _, s, _⟩ => keepT_same s, ?_, ?_⟩
      · rintro j x' v' σ' H' hx hv' ⟨o, u, y, z, rfl, hu, s4, hf⟩
        obtain ⟨i, hj, rfl⟩ : ∃ i, r[j]? = some i ∧ x' = ov i := by
          rw [List.getElem?_map] at hx
          cases e : r[j]? with
          | none => rw [e] at hx; cases hx
          | some i => rw [e] at hx; exact ⟨i, rfl, (Option.some.inj hx).symm⟩
        have hd : r.drop j = i :: r.drop (j + 1) := by
          obtain ⟨h1, h2⟩ := List.getElem?_eq_some_iff.mp hj
          rw [List.drop_eq_getElem_cons h1, h2]
        rw [hd] at hf
        have s14 := s2.trans (s3.trans s4)
        have e2 : EI K (tVar 2) (([some (.str w), some v2, some u, y, z] : L2.St).set 3 (some v')) H' (ov o) := ei_var rfl hu
        have e3 : EI K (tVar 3) (([some (.str w), some v2, some u, y, z] : L2.St).set 3 (some v')) H' (ov i) := ei_var rfl hv'
        have t0 : ET K _ _ H' (inD .none [ov o, ov i]) := et_test (ei_in (ds := [ov o, ov i]) ei_non (ei_tup (ea_cons e2 (ea_cons e3 ea_nil)) (by show 2 ≤ 100000; decide)) rfl rfl (by rw [List.all_cons, List.all_cons, ov_flat, ov_flat]; rfl))
        have stop : lawFold w o (i :: r.drop (j + 1)) = none → ∀ (σ : L2.St) H5, Same H' H5 → tRet (tC .non) { nx := fun σ2 H2 => True, rt := Q } σ H5 := fun e σ H5 s5 => s_ret (K := K) ei_non fun v6 H6 s6 hv6 => by
          rw [← hf, e] at hQ
          exact hQ v6 H6 (s14.trans (s5.trans s6)) hv6
        cases o with
        | none =>
          refine s_seq (s_ifT (et_orT (ET.of_eq t0 rfl)) fun H5 s5 => ?_)
          exact stop (by cases i <;> rfl) _ H5 s5
        | some a =>
          cases i with
          | none =>
            refine s_seq (s_ifT (et_orT (ET.of_eq t0 rfl)) fun H5 s5 => ?_)
            exact stop rfl _ H5 s5
          | some b =>
            have dv := dp_int hv'
            subst dv
            have du := dp_int hu
            subst du
            have hb9 : 0 ≤ b ∧ b ≤ 9999 := hok b (List.mem_cons_of_mem _ (List.mem_of_getElem? hj))
            have ew : EI K (tVar 0) (([some (.str w), some v2, some (.int a), y, z] : L2.St).set 3 (some (.int b))) H' (.str w) := ei_var rfl (.str w)
            have t1 : ET K _ _ H' (decide (w = "over")) := et_test (ei_eqS ew (ei_str (x := "over")))
            have t2 : ET K _ _ H' (decide (b = 0)) := et_test (ei_eqI e3 (ei_int (i := 0)))
            have hf2 : (if w = "over" ∧ b = 0 then none else lawFold w (outStep w a b) (r.drop (j + 1))) = lawFold w x r := hf
            by_cases hz : w = "over" ∧ b = 0
            · refine s_seq (s_ifT (et_orF (ET.of_eq t0 rfl) (et_andT (ET.of_eq t1 (decide_eq_true hz.1)) (ET.of_eq t2 (decide_eq_true hz.2)))) fun H5 s5 => ?_)
              exact stop (by show (if w = "over" ∧ b = 0 then none else _) = none; rw [if_pos hz]) _ H5 s5
            · rw [if_neg hz] at hf2
              have t3 : ET K _ _ H' false := ET.of_eq (et_and t1 fun _ => t2) (by
                by_cases c : w = "over"
                · rw [decide_eq_true c, decide_eq_false fun e => hz ⟨c, e⟩]; rfl
                · rw [decide_eq_false c]; rfl)
              refine s_seq (s_ifF (et_orF (ET.of_eq t0 rfl) t3) fun H5 s5 => ?_)
              dsimp only [tNext]
              refine s_seq (s_disp3 (K := K) (i := 4) (ei_mod (ei_add (e2.mono s5) (e3.mono s5)) ei_int (by decide)) (ei_max (e2.mono s5) (e3.mono s5)) (ei_max (ei_sub (e2.mono s5) (e3.mono s5)) ei_int) fun p kvs H6 s6 hp hk => ?_)
              dsimp only
              have ein : ∀ o : Option V, valV kvs (Sum.inr w : Key) = o → ET K (tB (tDIn (tVar 0) (tVar 4))) ((([some (.str w), some v2, some (.int a), y, z] : L2.St).set 3 (some (.int b))).set 4 (some (.ref p))) H6 o.isSome := fun o eo H7 s7 Q7 q7 =>
                ⟨_, rfl, _, rfl, p, o, rfl, by rw [← eo]; exact DGet.k (k := Sum.inr w) (s7 _ _ hp), o.isSome, rfl, q7 H7 (Same.refl _)⟩
              have key : ∀ s : Str, ((Sum.inr w : Key) = Sum.inr s) = (w = s) := fun s => propext ⟨fun h => by cases h; rfl, fun h => by rw [h]⟩
              have fin : ∀ q H7, Same H' H7 → outStep w a b = some q → ∃ o u y' z', ((((([some (.str w), some v2, some (.int a), y, z] : L2.St).set 3 (some (.int b))).set 4 (some (.ref p))).set 2 (some (.int q))) : L2.St) = [some (.str w), some v2, some u, y', z'] ∧ Dp K H7 u (ov o) ∧ Same H3 H7 ∧ lawFold w o (r.drop (j + 1)) = lawFold w x r :=
                fun q H7 s7 eq => ⟨some q, .int q, _, _, rfl, .int q, s4.trans s7, by rw [← eq]; exact hf2⟩
              have got : ∀ q : Int, valV kvs (Sum.inr w : Key) = some (.int q) → outStep w a b = some q → tAsg (tIf (tB (tDIn (tVar 0) (tVar 4))) (tDGet (tVar 4) (tVar 0)) (tOp (rI CDiv fun i j => .int (i / j)) (tVar 2) (tVar 3))) (gName 2)
                  { nx := fun σ'' H'' => ∃ o u y' z', σ'' = [some (.str w), some v2, some u, y', z'] ∧ Dp K H'' u (ov o) ∧ Same H3 H'' ∧ lawFold w o (r.drop (j + 1)) = lawFold w x r, rt := Q } ((([some (.str w), some v2, some (.int a), y, z] : L2.St).set 3 (some (.int b))).set 4 (some (.ref p))) H6 := fun q e1 e2 => by
                refine (ein _ e1) H6 (Same.refl _) _ fun H7 s7 => ?_
                refine iteT ?_
                exact ⟨_, rfl, _, rfl, p, .int q, rfl, by rw [← e1]; exact DGet.k (k := Sum.inr w) (s7 _ _ hp), fin q H7 ((s5.trans s6).trans s7) e2⟩
              by_cases c1 : w = "sum"
              · exact got _ (by rw [hk, if_neg (by rw [key, c1]; decide), if_neg (by rw [key, c1]; decide), if_pos (by rw [key]; exact c1)]) (by unfold outStep; rw [if_pos c1])
              · by_cases c2 : w = "most"
                · exact got _ (by rw [hk, if_neg (by rw [key, c2]; decide), if_pos (by rw [key]; exact c2)]) (by unfold outStep; rw [if_neg c1, if_pos c2])
                · by_cases c3 : w = "less"
                  · exact got _ (by rw [hk, if_pos (by rw [key]; exact c3)]) (by unfold outStep; rw [if_neg c1, if_neg c2, if_pos c3, Int.max_comm])
                  · have co := outStep_over hw c1 c2 c3
                    have hb0 : ¬ b = 0 := fun e => hz ⟨co, e⟩
                    have e1 : valV kvs (Sum.inr w : Key) = none := by rw [hk, if_neg (by rw [key]; exact c3), if_neg (by rw [key]; exact c2), if_neg (by rw [key]; exact c1)]
                    refine (ein _ e1) H6 (Same.refl _) _ fun H7 s7 => ?_
                    refine iteF ?_
                    refine (ei_fdiv (K := K) (H := H7) (ei_var (i := 2) rfl (.int a)) (ei_var (i := 3) rfl (.int b)) ⟨by omega, by omega⟩) H7 (Same.refl _) _ fun v8 H8 s8 hv8 => ?_
                    have dv8 := dp_int hv8
                    subst dv8
                    exact fin _ H8 (((s5.trans s6).trans s7).trans s8) (by unfold outStep; rw [if_neg c1, if_neg c2, if_neg c3, if_neg hb0])
      · rintro σ' H' ⟨o, u, y, z, rfl, hu, s4, hf⟩
        rw [List.length_map, List.drop_length] at hf
        have hf2 : o = lawFold w x r := by cases o <;> exact hf
        rw [← hf2] at hQ
        dsimp only
        exact s_ret (K := K) (d := ov o) (ei_var (i := 2) rfl hu) fun v5 H5 s5 hv => hQ v5 H5 (s2.trans (s3.trans (s4.trans s5))) hv

/-! ### the law k02 -/
def nameL (s : Int) : List Nat := (List.range (1 + s / 11 % 4).toNat).map fun j => SM.cps.toList.getD (pickM (seedM s (j : Nat)) 26).toNat 97
def nameS (s : Int) : Str := ⟨(nameL s).toArray⟩
theorem join_signs : ∀ cs : List Nat, Str.join ⟨#[]⟩ (cs.map fun c => (⟨#[c]⟩ : Str)) = ⟨cs.toArray⟩
  | [] => rfl
  | [c] => rfl
  | c :: d :: r => by
    have ih := join_signs (d :: r)
    show (⟨#[c]⟩ : Str) ++ (⟨#[]⟩ : Str) ++ Str.join ⟨#[]⟩ ((d :: r).map fun c => (⟨#[c]⟩ : Str)) = _
    rw [ih]
    show (⟨(#[c] ++ #[]) ++ (d :: r).toArray⟩ : Str) = _
    simp
theorem sm_in {i : Int} (h0 : 0 ≤ i) (h1 : i < 26) : SM.cps.toList.getD i.toNat 97 ∈ SM.cps.toList := by
  have hl : SM.cps.toList.length = 26 := by decide +kernel
  have h : i.toNat < SM.cps.toList.length := by omega
  simp only [List.getD, List.getElem?_eq_getElem h, Option.getD_some]
  exact List.getElem_mem h
theorem nameS_is (s : Int) : isName (.str (nameS s)) = true := by
  have h : 0 ≤ s / 11 % 4 ∧ s / 11 % 4 < 4 := ⟨Int.emod_nonneg _ (by decide), Int.emod_lt_of_pos _ (by decide)⟩
  have hl : (nameS s).length = (1 + s / 11 % 4).toNat := by
    show (nameL s).toArray.size = _
    unfold nameL
    simp
  show ((decide ((1 : Int) ≤ ((nameS s).length : Nat)) && decide ((((nameS s).length : Nat) : Int) ≤ 4)) && ((nameS s).cps.toList.all fun c => decide (c ∈ SM.cps.toList))) = true
  rw [hl, decide_eq_true (by omega), decide_eq_true (by omega), Bool.true_and, Bool.true_and]
  refine List.all_eq_true.mpr fun c hc => ?_
  have hc2 : c ∈ nameL s := by simpa [nameS] using hc
  obtain ⟨j, _, rfl⟩ := List.mem_map.mp hc2
  exact decide_eq_true (sm_in (Int.emod_nonneg _ (by decide)) (Int.emod_lt_of_pos _ (by decide)))
theorem nameS_small (s : Int) : strSmall (.str (nameS s)) = true := by
  have h := nameS_is s
  have h2 : ((decide ((1 : Int) ≤ ((nameS s).length : Nat)) && decide ((((nameS s).length : Nat) : Int) ≤ 4)) && ((nameS s).cps.toList.all fun c => decide (c ∈ SM.cps.toList))) = true := h
  rw [Bool.and_eq_true, Bool.and_eq_true, decide_eq_true_eq, decide_eq_true_eq] at h2
  exact decide_eq_true (by have := h2.1.2; omega)
def partL (seed : Int) (n : Nat) : List Str := (List.range n).map fun k => nameS (seedM seed (10 + (k : Nat)))
def oddD : List PyData :=
  [.none, .tuple [], .str "sum", .tuple [.str "sum"], .tuple [.str "sum", .tuple [.str "a"]], .tuple [.str "add", .tuple [.str "a"], .int 1], .tuple [.str "sum", .str "a", .int 1], .tuple [.str "sum", .list [.str "a"], .int 1]] ++
  [.tuple [.str "sum", .tuple [], .int 1], .tuple [.str "sum", .tuple [.str "a", .str "a", .str "a", .str "a"], .int 1], .tuple [.str "sum", .tuple [.str "a"], .int 0], .tuple [.str "sum", .tuple [.str "a"], .int 10], .tuple [.str "sum", .tuple [.str "a"], .bool true]] ++
  [.tuple [.str "sum", .tuple [.str "A"], .int 1], .tuple [.str "sum", .tuple [.str ""], .int 1], .tuple [.str "sum", .tuple [.str "abcde"], .int 1], .list [.str "sum", .tuple [.str "a"], .int 1], .tuple [.int 1, .tuple [.str "a"], .int 1]]
theorem oddD_no : ∀ x ∈ oddD, isRecipe x = false ∧ recSmall x = true := by
  have h : (oddD.all fun x => !isRecipe x && recSmall x) = true := by decide +kernel
  intro x hx
  have := List.all_eq_true.mp h x hx
  rw [Bool.and_eq_true] at this
  exact ⟨by simpa using this.1, this.2⟩
/-- values that are none for a recipe of as many parts -/
def noneD (vs : List PyData) : List PyData := [.none, .list vs, .tuple (vs ++ [.int 1]), .tuple (vs.drop 1), .tuple ([.int (-1)] ++ vs.drop 1), .tuple ([.bool true] ++ vs.drop 1)] ++ [.tuple ([.int 10000] ++ vs.drop 1)]
theorem madeOf_bad {x y : PyData} (h : isRecipe x = false) : madeOf x y = .error "BadRecipe" := by unfold madeOf; rw [if_neg (by rw [h]; decide)]
theorem noneD_no {w : Str} {ps : List PyData} {n : PyData} {vs : List PyData} (hR : isRecipe (.tuple [.str w, .tuple ps, n]) = true) (hl : vs.length = ps.length) (h1 : 1 ≤ ps.length) : ∀ y ∈ noneD vs, madeOf (.tuple [.str w, .tuple ps, n]) y = .error "BadValue" := by
  have key : ∀ ys : List PyData, (ys.length ≠ ps.length ∨ ys.all valOk ≠ true) → madeOf (.tuple [.str w, .tuple ps, n]) (.tuple ys) = .error "BadValue" := fun ys h => by
    unfold madeOf
    rw [if_pos hR]
    show (if ys.length = ps.length then (if ys.all valOk = true then _ else _) else _) = _
    by_cases he : ys.length = ps.length
    · rw [if_pos he, if_neg (h.resolve_left fun z => z he)]
    · rw [if_neg he]
  have bad : ∀ (d : PyData) (r : List PyData), valOk d = false → ([d] ++ r).all valOk ≠ true := fun d r h e => by
    rw [List.all_append, List.all_cons, h] at e
    simp at e
  intro y hy
  simp only [noneD, List.mem_append, List.mem_cons, List.not_mem_nil, or_false] at hy
  rcases hy with (rfl | rfl | rfl | rfl | rfl | rfl) | rfl
  · unfold madeOf; rw [if_pos hR]
  · unfold madeOf; rw [if_pos hR]
  · exact key _ (.inl (by rw [List.length_append]; show vs.length + 1 ≠ _; omega))
  · exact key _ (.inl (by rw [List.length_drop]; omega))
  · exact key _ (.inr (bad _ _ (by decide)))
  · exact key _ (.inr (bad _ _ (by decide)))
  · exact key _ (.inr (bad _ _ (by decide)))
theorem noneD_imm {vs : List PyData} (hi : immAll vs = true) (hl : vs.length ≤ 100) : ∀ y ∈ noneD vs, ∀ ys, y = .tuple ys → immAll ys = true ∧ ys.length ≤ 1000 := by
  have hd : immAll (vs.drop 1) = true := immAll_of fun x hx => immAll_mem hi (List.mem_of_mem_drop hx)
  have one : ∀ d : PyData, imm d = true → immAll [d] = true := fun d h => by show (imm d && true) = true; rw [h]; rfl
  intro y hy ys e
  subst e
  simp only [noneD, List.mem_append, List.mem_cons, List.not_mem_nil, or_false, reduceCtorEq, false_or, PyData.tuple.injEq] at hy
  rcases hy with (rfl | rfl | rfl | rfl) | rfl
  · exact ⟨immAll_app hi (one _ rfl), by rw [List.length_append]; show _ + 1 ≤ _; omega⟩
  · exact ⟨hd, by rw [List.length_drop]; omega⟩
  · exact ⟨immAll_app (one _ rfl) hd, by rw [List.length_append, List.length_drop]; show 1 + _ ≤ _; omega⟩
  · exact ⟨immAll_app (one _ rfl) hd, by rw [List.length_append, List.length_drop]; show 1 + _ ≤ _; omega⟩
  · exact ⟨immAll_app (one _ rfl) hd, by rw [List.length_append, List.length_drop]; show 1 + _ ≤ _; omega⟩
def sp_law (K : Fr) : Sp := fun vs H Q _ => ∃ (a : Addr) (ns : List Int), vs = [.ref a] ∧ SqL K H a (ns.map V.int) ∧ ns.length ≤ 63 ∧ ∀ H', Q (.bl true) H'
theorem dpA_ints {K : Fr} {H : Hp} : ∀ ns : List Int, DpAll K H (ns.map V.int) (ns.map PyData.int)
  | [] => .nil
  | n :: ns => .cons (.int n) (dpA_ints ns)
theorem dpA_strs' {K : Fr} {H : Hp} : ∀ ns : List Str, DpAll K H (ns.map V.str) (ns.map PyData.str)
  | [] => .nil
  | n :: ns => .cons (.str n) (dpA_strs' ns)
theorem getD_mem {α : Type} {l : List α} {n : Nat} {d : α} (h : n < l.length) : l.getD n d ∈ l := by
  rw [List.getD, List.getElem?_eq_getElem h]
  exact List.getElem_mem h
theorem ov_shaped (o : Option Int) : SeqAt.shaped (ov o) = true := by cases o <;> rfl
theorem eqv_ov (o : Option Int) : PyData.eqv (ov o) (ov o) = true := by
  cases o with
  | none => rfl
  | some i => exact beq_self_eq_true i
theorem imm_ovs (vs : List (Option Int)) : immAll (vs.map ov) = true := immAll_of fun y hy => by
  obtain ⟨o, _, rfl⟩ := List.mem_map.mp hy
  exact ov_imm o
abbrev Rcell : List PyData → PyData → Prop := fun ds d => ∃ (ns : List Int) (k : Nat), ds = [.list (ns.map PyData.int), .int (k : Nat)] ∧ d = .int (ns.getD k 0)
abbrev Rseed : List PyData → PyData → Prop := fun ds d => ∃ a k : Int, ds = [.int a, .int k] ∧ d = .int (seedM a k)
abbrev Rpick : List PyData → PyData → Prop := fun ds d => ∃ s m : Int, ds = [.int s, .int m] ∧ 0 < m ∧ d = .int (pickM s m)
abbrev Rlo : List PyData → PyData → Prop := fun ds d => ∃ (w : Str) (vs : List (Option Int)), ds = [.str w, .tuple (vs.map ov)] ∧ vs ≠ [] ∧ inD (.str w) wordsD = true ∧ valsOk vs ∧ d = ov (outcome w vs)
abbrev Rval : List PyData → PyData → Prop := fun ds d => ∃ s : Int, ds = [.int s] ∧ d = .int (valueM s)
theorem ei_tupOf {K : Fr} {σ : L2.St} {H : Hp} {ta : TE} {ds : List PyData} (h : EI K ta σ H (.list ds)) : EI K (tThen ta (kTup K)) σ H (.tuple ds) := fun H1 s Q q =>
  h H1 s _ fun v H2 s2 hv => by
    obtain ⟨p, xs, rfl, h1, h2⟩ := dp_lst hv
    exact Or.inl ⟨p, xs, rfl, h1, fun l hl => q _ _ (s2.trans (Same.new hl)) (.tup (SqT.of upd_same) (dpA_same (Same.new hl) _ _ h2))⟩
theorem set_same {α : Type} : ∀ {l : List α} {i : Nat} {x : α}, l[i]? = some x → l.set i x = l
  | [], i, x, h => by simp at h
  | a :: l, 0, x, h => by
    have e : a = x := Option.some.inj h
    rw [e]
    rfl
  | a :: l, i + 1, x, h => by
    show a :: l.set i x = a :: l
    rw [set_same (l := l) (i := i) h]
/-- if c: x = e -/
theorem s_ifSet {K : Fr} {σ : L2.St} {H : Hp} {D : Ends} {c : TT} {te : TE} {d d0 : PyData} {i : Nat} {v0 : V} {b : Bool} (hσ : σ[i]? = some (some v0)) (h : ET K c σ H b) (h1 : b = true → EI K te σ H d) (h0 : Dp K H v0 d0)
    (k : ∀ v H', Same H H' → Dp K H' v (if b = true then d else d0) → D.nx (σ.set i (some v)) H') : tIfS c (tAsg te (gName i)) tNext D σ H := by
  refine s_if h (fun e H' s => ?_) (fun e H' s => ?_)
  · refine s_set (K := K) ((h1 e).mono s) fun v H2 s2 hv => k v H2 (s.trans s2) ?_
    rw [if_pos e]
    exact hv
  · have q := k v0 H' s (by rw [if_neg (by rw [e]; decide)]; exact dp_same s _ _ h0)
    rw [set_same hσ] at q
    exact q
theorem wordsD_get : ∀ n : Nat, n < 4 → ∃ w : Str, wordsD.getD n (.str "sum") = .str w ∧ inD (.str w) wordsD = true
  | 0, _ => ⟨"sum", rfl, by decide +kernel⟩
  | 1, _ => ⟨"most", rfl, by decide +kernel⟩
  | 2, _ => ⟨"less", rfl, by decide +kernel⟩
  | 3, _ => ⟨"over", rfl, by decide +kernel⟩
theorem toOpt_ov (o : Option Int) : toOpt (ov o) = o := by cases o <;> rfl
theorem madeOf_ok {w : Str} {ps : List PyData} {n : PyData} {vs : List (Option Int)} (hR : isRecipe (.tuple [.str w, .tuple ps, n]) = true) (hl : vs.length = ps.length) (hv : valsOk vs) : madeOf (.tuple [.str w, .tuple ps, n]) (.tuple (vs.map ov)) = .ok (ov (outcome w vs)) := by
  unfold madeOf
  rw [if_pos hR]
  show (if (vs.map ov).length = ps.length then (if (vs.map ov).all valOk = true then _ else _) else _) = _
  rw [if_pos (by rw [List.length_map]; exact hl), if_pos]
  · have e : (vs.map ov).map toOpt = vs := by
      rw [List.map_map]
      have : (toOpt ∘ ov) = id := funext fun o => toOpt_ov o
      rw [this, List.map_id]
    rw [e]
  · refine List.all_eq_true.mpr fun x hx => ?_
    obtain ⟨o, ho, rfl⟩ := List.mem_map.mp hx
    cases o with
    | none => rfl
    | some i =>
      obtain ⟨h1, h2⟩ := hv i ho
      show (false || (decide (0 ≤ i) && decide (i ≤ 9999))) = true
      rw [decide_eq_true h1, decide_eq_true h2]
      rfl
theorem s_callSOk {K : Fr} {σ : L2.St} {H : Hp} {D : Ends} {R : List PyData → Except Str PyData → Prop} {E : L2.St → XK} {ta : TA} {ds : List PyData} {d : PyData} (h : EA K ta σ H ds) (hr : R ds (.ok d)) (k : ∀ H', Same H H' → D.nx σ H') : tDrop (tCallS (PR K R) E ta) D σ H :=
  h H (Same.refl H) _ fun vs H2 s2 hv => ⟨ds, .ok d, hv, hr, fun v H3 s3 hd => k H3 (s2.trans s3)⟩
theorem s_callSErr {K : Fr} {σ : L2.St} {H : Hp} {D : Ends} {R : List PyData → Except Str PyData → Prop} {E : L2.St → XK} {ta : TA} {ds : List PyData} {c : Str} (h : EA K ta σ H ds) (hr : R ds (.error c)) (k : ∀ H', Same H H' → E σ (.ref (He.ga K c)) none H') : tDrop (tCallS (PR K R) E ta) D σ H :=
  h H (Same.refl H) _ fun vs H2 s2 hv => ⟨ds, .error c, hv, hr, fun H3 s3 => k H3 (s2.trans s3)⟩
theorem ei_callS {K : Fr} {σ : L2.St} {H : Hp} {R : List PyData → PyData → Prop} {E : L2.St → XK} {ta : TA} {ds : List PyData} {d : PyData} (h : EA K ta σ H ds) (hr : R ds d) : EI K (tCallS (PF K R) E ta) σ H d := fun H1 s Q q =>
  h H1 s _ fun vs H2 s2 hv => ⟨ds, d, hv, hr, fun v H3 s3 hd => q v H3 (s2.trans s3) hd⟩
set_option maxHeartbeats 16000000 in
theorem sc_law : FnScope ["script", "letters", "seed", "parts", "k", "one", "j", "word", "recipe", "values", "odd", "bad", "none", "caught", "way"] ["script"] (defScope s_law) := ⟨rfl, rfl, rfl, by decide +kernel, rfl, by decide +kernel, by decide +kernel⟩
theorem ok_law {P : Program} {w : World} {K : Fr} {mg : Str → Option Value} (T : Tx w K mg) : ∃ fd, (∀ (s : Shared) (v : Value), BindsTo s fd ⟨[v], []⟩ [("script", v)]) ∧ ∀ base : Heap, FnOk P w K mg base (L2.CX P w) 5 (He.ga K "law") fd ["script"] (sp_law K) := by
  obtain ⟨fd, F⟩ := T.F_law
  refine ⟨fd, fun s v => FunD.bindsA (ps := ["script"]) F (fun _ _ _ _ _ _ us hl => match us, hl with | [_], _ => rfl) s [v] rfl, fun base => FunD.ok F sc_law (fun vs H Q E h => ?len) (fun cdv A outer s H vs Q E hr h => ⟨_, (pss_cons (ps_set (i := 1) sc_law.nd rfl (by first | exact Or.inl rfl | exact Or.inr rfl) pe_str)
  (pss_cons (ps_set (i := 2) sc_law.nd rfl (by first | exact Or.inl rfl | exact Or.inr rfl) (pe_f (ok__law_seed T) (hr.mono (by decide)) T.g__law_seed (pass_of rfl rfl rfl rfl) (pa_cons (pe_f (ok__law_cell T) (hr.mono (by decide)) T.g__law_cell (pass_of rfl rfl rfl rfl) (pa_cons (pv 0) (pa_cons pe_int pa_nil))) (pa_cons pe_int pa_nil))))
  (pss_cons (ps_set (i := 3) sc_law.nd rfl (by first | exact Or.inl rfl | exact Or.inr rfl) (pe_lst pa_nil))
  (pss_cons (ps_for (passes_of rfl) rfl (pi_range1 rfl T.f_range (pa_cons (pe_op op_add pe_int (pe_op op_mod (pe_op op_fdiv (pv 2) pe_int) pe_int)) pa_nil)) (pg_name (i := 4) sc_law.nd rfl (by first | exact Or.inl rfl | exact Or.inr rfl)) (pss_cons (ps_set (i := 5) sc_law.nd rfl (by first | exact Or.inl rfl | exact Or.inr rfl) (pe_f (ok__law_seed T) (hr.mono (by decide)) T.g__law_seed (pass_of rfl rfl rfl rfl) (pa_cons (pv 2) (pa_cons (pe_op op_add pe_int (pv 4)) pa_nil))))
  (pss_one (ps_expr (kpe_bm K PySem.F.plainAttrs_list PySem.F.slot_list_append PySem.F.type_list_append mt_append (pv 3) (pa_cons (kpe_join K pe_str (pe_lc (own := [("j", 6)]) rfl sc_law.nd (pi_range1 rfl T.f_range (pa_cons (pe_op op_add pe_int (pe_op op_mod (pe_op op_fdiv (pv 5) pe_int) pe_int)) pa_nil)) (blkOk_by (own := [("j", 6)]) (N := ["script", "letters", "seed", "parts", "k", "one", "j", "word", "recipe", "values", "odd", "bad", "none", "caught", "way"]) (sc := defScope s_law) (by decide +kernel)) (fun _ _ _ _ _ => (pg_name (i := 6) sc_law.nd rfl (by first | exact Or.inl rfl | exact Or.inr rfl))) (fun _ _ _ _ _ => pts_nil) (fun _ _ _ _ _ => (pe_ix (kix_seq K) (pv 1) (pe_f (ok__law_pick T) (hr.mono (by decide)) T.g__law_pick passL (pa_cons (pe_f (ok__law_seed T) (hr.mono (by decide)) T.g__law_seed passL (pa_cons (pv 5) (pa_cons (pv 6) pa_nil))) (pa_cons pe_int pa_nil))) (fun _ _ => rfl))))) pa_nil))))))
  (pss_cons (ps_set (i := 7) sc_law.nd rfl (by first | exact Or.inl rfl | exact Or.inr rfl) (pe_ix (kix_seq K) (pe_lst (pa_cons pe_str (pa_cons pe_str (pa_cons pe_str (pa_cons pe_str pa_nil))))) (pe_op op_mod (pe_f (ok__law_cell T) (hr.mono (by decide)) T.g__law_cell (pass_of rfl rfl rfl rfl) (pa_cons (pv 0) (pa_cons pe_int pa_nil))) pe_int) (fun _ _ => rfl)))
  (pss_cons (ps_set (i := 8) sc_law.nd rfl (by first | exact Or.inl rfl | exact Or.inr rfl) (pe_tup (pa_cons (pv 7) (pa_cons (kpe_tupleOf K T.f_tuple (pv 3)) (pa_cons (pe_op op_add pe_int (pe_op op_mod (pe_f (ok__law_cell T) (hr.mono (by decide)) T.g__law_cell (pass_of rfl rfl rfl rfl) (pa_cons (pv 0) (pa_cons pe_int pa_nil))) pe_int)) pa_nil)))))
  (pss_cons (ps_set (i := 9) sc_law.nd rfl (by first | exact Or.inl rfl | exact Or.inr rfl) (kpe_tupleOf K T.f_tuple (pe_lc (own := [("k", 4)]) rfl sc_law.nd (pi_range1 rfl T.f_range (pa_cons (pe_callB (kcall_len K) rfl T.f_len bb_len (pa_cons (pv 3) pa_nil)) pa_nil)) (blkOk_by (own := [("k", 4)]) (N := ["script", "letters", "seed", "parts", "k", "one", "j", "word", "recipe", "values", "odd", "bad", "none", "caught", "way"]) (sc := defScope s_law) (by decide +kernel)) (fun _ _ _ _ _ => (pg_name (i := 4) sc_law.nd rfl (by first | exact Or.inl rfl | exact Or.inr rfl))) (fun _ _ _ _ _ => pts_nil) (fun _ _ _ _ _ => (pe_f (ok__law_value T) (hr.mono (by decide)) T.g__law_value passL (pa_cons (pe_f (ok__law_seed T) (hr.mono (by decide)) T.g__law_seed passL (pa_cons (pe_f (ok__law_cell T) (hr.mono (by decide)) T.g__law_cell passL (pa_cons (pv 0) (pa_cons (pe_op op_add pe_int (pv 4)) pa_nil))) (pa_cons (pv 4) pa_nil))) pa_nil))))))
  (pss_cons (ps_if (pt_cmpR op_eq (pe_op op_mod (pe_f (ok__law_cell T) (hr.mono (by decide)) T.g__law_cell (pass_of rfl rfl rfl rfl) (pa_cons (pv 0) (pa_cons pe_int pa_nil))) pe_int) pe_int (nomark _)) (pss_one (ps_set (i := 9) sc_law.nd rfl (by first | exact Or.inl rfl | exact Or.inr rfl) (pe_op (kop_catA K) (pe_tup (pa_cons pe_non pa_nil)) (pe_slice (ksl_tup K) (pv 9) (po_some pe_int) po_none)))) pss_nil)
  (pss_cons (ps_if (PW.pt (pw_or (pt_cmpR op_notBl (pe_f (ok_is_recipe T) (hr.mono (by decide)) T.g_is_recipe (pass_of rfl rfl rfl rfl) (pa_cons (pv 8) pa_nil)) pe_bl (nomark _)) (pw_or1 (pt_cmpR (kop_neD K hr.units) (pe_f (ok_made_of T) (hr.mono (by decide)) T.g_made_of (pass_of rfl rfl rfl rfl) (pa_cons (pv 8) (pa_cons (pv 9) pa_nil))) (pe_f (ok__law_outcome T) (hr.mono (by decide)) T.g__law_outcome (pass_of rfl rfl rfl rfl) (pa_cons (pv 7) (pa_cons (pv 9) pa_nil))) (nomark _))))) (pss_one (ps_ret pe_bl)) pss_nil)
  (pss_cons (ps_set (i := 10) sc_law.nd rfl (by first | exact Or.inl rfl | exact Or.inr rfl) (pe_lst (pa_cons pe_non (pa_cons (pe_tup pa_nil) (pa_cons pe_str (pa_cons (pe_tup (pa_cons pe_str pa_nil)) (pa_cons (pe_tup (pa_cons pe_str (pa_cons (pe_tup (pa_cons pe_str pa_nil)) pa_nil))) (pa_cons (pe_tup (pa_cons pe_str (pa_cons (pe_tup (pa_cons pe_str pa_nil)) (pa_cons pe_int pa_nil)))) (pa_cons (pe_tup (pa_cons pe_str (pa_cons pe_str (pa_cons pe_int pa_nil)))) (pa_cons (pe_tup (pa_cons pe_str (pa_cons (pe_lst (pa_cons pe_str pa_nil)) (pa_cons pe_int pa_nil)))) pa_nil))))))))))
  (pss_cons (ps_set (i := 10) sc_law.nd rfl (by first | exact Or.inl rfl | exact Or.inr rfl) (pe_op op_cat (pv 10) (pe_lst (pa_cons (pe_tup (pa_cons pe_str (pa_cons (pe_tup pa_nil) (pa_cons pe_int pa_nil)))) (pa_cons (pe_tup (pa_cons pe_str (pa_cons (pe_op (kop_repT K) (pe_tup (pa_cons pe_str pa_nil)) pe_int) (pa_cons pe_int pa_nil)))) (pa_cons (pe_tup (pa_cons pe_str (pa_cons (pe_tup (pa_cons pe_str pa_nil)) (pa_cons pe_int pa_nil)))) (pa_cons (pe_tup (pa_cons pe_str (pa_cons (pe_tup (pa_cons pe_str pa_nil)) (pa_cons pe_int pa_nil)))) (pa_cons (pe_tup (pa_cons pe_str (pa_cons (pe_tup (pa_cons pe_str pa_nil)) (pa_cons pe_bl pa_nil)))) pa_nil))))))))
  (pss_cons (ps_set (i := 10) sc_law.nd rfl (by first | exact Or.inl rfl | exact Or.inr rfl) (pe_op op_cat (pv 10) (pe_lst (pa_cons (pe_tup (pa_cons pe_str (pa_cons (pe_tup (pa_cons pe_str pa_nil)) (pa_cons pe_int pa_nil)))) (pa_cons (pe_tup (pa_cons pe_str (pa_cons (pe_tup (pa_cons pe_str pa_nil)) (pa_cons pe_int pa_nil)))) (pa_cons (pe_tup (pa_cons pe_str (pa_cons (pe_tup (pa_cons pe_str pa_nil)) (pa_cons pe_int pa_nil)))) (pa_cons (pe_lst (pa_cons pe_str (pa_cons (pe_tup (pa_cons pe_str pa_nil)) (pa_cons pe_int pa_nil)))) (pa_cons (pe_tup (pa_cons pe_int (pa_cons (pe_tup (pa_cons pe_str pa_nil)) (pa_cons pe_int pa_nil)))) pa_nil))))))))
  (pss_cons (ps_set (i := 11) sc_law.nd rfl (by first | exact Or.inl rfl | exact Or.inr rfl) (pe_ix (kix_seq K) (pv 10) (pe_op op_mod (pe_f (ok__law_cell T) (hr.mono (by decide)) T.g__law_cell (pass_of rfl rfl rfl rfl) (pa_cons (pv 0) (pa_cons pe_int pa_nil))) pe_int) (fun _ _ => rfl)))
  (pss_cons (ps_set (i := 12) sc_law.nd rfl (by first | exact Or.inl rfl | exact Or.inr rfl) (pe_lst (pa_cons pe_non (pa_cons (pe_callTy (kcall_list K) rfl T.f_list bb_list (pa_cons (pv 9) pa_nil)) (pa_cons (pe_op (kop_catA K) (pv 9) (pe_tup (pa_cons pe_int pa_nil))) (pa_cons (pe_slice (ksl_tup K) (pv 9) (po_some pe_int) po_none) (pa_cons (pe_op (kop_catA K) (pe_tup (pa_cons (pe_un un_neg pe_int) pa_nil)) (pe_slice (ksl_tup K) (pv 9) (po_some pe_int) po_none)) (pa_cons (pe_op (kop_catA K) (pe_tup (pa_cons pe_bl pa_nil)) (pe_slice (ksl_tup K) (pv 9) (po_some pe_int) po_none)) pa_nil))))))))
  (pss_cons (ps_expr (kpe_bm K PySem.F.plainAttrs_list PySem.F.slot_list_append PySem.F.type_list_append mt_append (pv 12) (pa_cons (pe_op (kop_catA K) (pe_tup (pa_cons pe_int pa_nil)) (pe_slice (ksl_tup K) (pv 9) (po_some pe_int) po_none)) pa_nil)))
  (pss_cons (ps_set (i := 13) sc_law.nd rfl (by first | exact Or.inl rfl | exact Or.inr rfl) (pe_lst pa_nil))
  (pss_cons (ps_for (passes_of rfl) rfl (pi_range1 rfl T.f_range (pa_cons pe_int pa_nil)) (pg_name (i := 14) sc_law.nd rfl (by first | exact Or.inl rfl | exact Or.inr rfl)) (pss_one (ps_try_many (tb := fun W => tIfS (tTest (tOp rEq (tVar 14) (tC (.int 0)))) (tDrop (tCallS (sp_made_of K) (WE W) (tCons (tVar 11) (tCons (tC .non) tNil)))) (tDrop (tCallS (sp_made_of K) (WE W) (tCons (tVar 8) (tCons (tOp (rIx K) (tVar 12) (tOp (rI (fun _ j => 0 < j) fun i j => .int (i % j)) (tCallS (sp__law_cell K) (WE W) (tCons (tVar 0) (tCons (tC (.int 8)) tNil))) (tC (.int 7)))) tNil))))) (l := [(.ref (He.ga K "BadRecipe"), fun _ _ _ => tDrop (tBM K "list" rAppend (tVar 13) (tCons (tC (.str "recipe")) tNil))), (.ref (He.ga K "BadValue"), fun _ _ _ => tDrop (tBM K "list" rAppend (tVar 13) (tCons (tC (.str "value")) tNil)))]) rfl rfl (takes_of rfl rfl rfl rfl) (fun W pn xe tk po => (pss_one (ps_if (pt_cmpR op_eq (pv 14) pe_int (nomark _)) (pss_one (ps_expr (pe_fS (ok_made_of T) (hr.mono (by decide)) T.g_made_of (fun σ => passAt tk σ) (pa_cons (pv 11) (pa_cons pe_non pa_nil))))) (pss_one (ps_expr (pe_fS (ok_made_of T) (hr.mono (by decide)) T.g_made_of (fun σ => passAt tk σ) (pa_cons (pv 8) (pa_cons (pe_ix (kix_seq K) (pv 12) (pe_op op_mod (pe_fS (ok__law_cell T) (hr.mono (by decide)) T.g__law_cell (fun σ => passAt tk σ) (pa_cons (pv 0) (pa_cons pe_int pa_nil))) pe_int) (fun _ _ => rfl)) pa_nil)))))))) (by exact (HdsOk.cons ⟨rfl, by decide, .inl T.g_BadRecipe⟩ (fun a oe cls d pn hz hf => (by exact (pss_one (ps_expr (kpe_bm K PySem.F.plainAttrs_list PySem.F.slot_list_append PySem.F.type_list_append mt_append (pv 13) (pa_cons pe_str pa_nil)))))) (HdsOk.cons ⟨rfl, by decide, .inl T.g_BadValue⟩ (fun a oe cls d pn hz hf => (by exact (pss_one (ps_expr (kpe_bm K PySem.F.plainAttrs_list PySem.F.slot_list_append PySem.F.type_list_append mt_append (pv 13) (pa_cons pe_str pa_nil)))))) HdsOk.nil))))))
  (pss_one (ps_ret (pe_and (pe_cmpR (kop_eqD K hr.units) (pv 13) (pe_lst (pa_cons pe_str (pa_cons pe_str pa_nil))) (nomark _)) (pe_one (pe_cmpR op_isBl (pe_f (ok_is_recipe T) (hr.mono (by decide)) T.g_is_recipe (pass_of rfl rfl rfl rfl) (pa_cons (pv 11) pa_nil)) pe_bl (nomark _))))))))))))))))))))))), ?body⟩)⟩
  case len =>
    obtain ⟨a, ns, rfl, _⟩ := h
    rfl
  case body =>
    try dsimp only [cxOf]
    obtain ⟨a, ns, rfl, hS, hlen, hQ⟩ := h
    have a0 : Dp K H (.ref a) (.list (ns.map PyData.int)) := .lst hS (dpA_ints ns)
    -- letters
    refine s_seq (s_set (K := K) (d := .str SM) ei_str fun v H1 s1 hv => ?_)
    cases dp_str hv
    dsimp only
    -- seed
    have cell : ∀ (k : Nat) (E : XK) (σ : L2.St) (H' : Hp), Same H H' → σ[0]? = some (some (.ref a)) → EI K (tCall (PF K Rcell) [] E (tCons (tVar 0) (tCons (tC (.int (k : Nat))) tNil))) σ H' (.int (ns.getD k 0)) := fun k E σ H' s hσ => ei_call (ea_cons (ei_var hσ (dp_same s _ _ a0)) (ea_cons ei_int ea_nil)) ⟨ns, k, rfl, rfl⟩
    refine s_seq (s_set (K := K) (d := .int (seedM (ns.getD 0 0) 0)) (ei_call (R := Rseed) (ea_cons (cell 0 _ _ _ s1 rfl) (ea_cons ei_int ea_nil)) ⟨_, _, rfl, rfl⟩) fun v H2 s2 hv => ?_)
    cases dp_int hv
    dsimp only
    generalize seedM (ns.getD 0 0) 0 = sd
    -- parts
    refine s_seq (s_setL (K := K) (el_lst ea_nil (by decide)) fun p vs H3 s3 hp0 hp hvs => ?_)
    cases hvs.1
    dsimp only
    have s13 := s1.trans (s2.trans s3)
    have hpH : H p = none := (s1.trans s2).free hp0
    have hn3 : 0 ≤ sd / 7 % 3 ∧ sd / 7 % 3 < 3 := ⟨Int.emod_nonneg _ (by decide), Int.emod_lt_of_pos _ (by decide)⟩
    have hN : ((1 + sd / 7 % 3).toNat : Int) = 1 + sd / 7 % 3 := by omega
    refine s_seq (s_forR (K := K) (n := (1 + sd / 7 % 3).toNat) (ea_cons (EI.of_eq (ei_add ei_int (ei_mod (ei_fdiv (ei_var (i := 2) rfl (.int sd)) ei_int ⟨by decide, by decide⟩) ei_int (by decide))) (by rw [hN])) ea_nil) (by omega) fun H4 s4 => ?_)
    refine ⟨fun j σ' H' => ∃ k o, σ' = [some (.ref a), some (.str SM), some (.int sd), some (.ref p), k, o, none, none, none, none, none, none, none, none, none] ∧ Same H H' ∧ H' p = some (.lst ((partL sd j).map V.str)),
      ⟨none, none, rfl, s13.trans s4, s4 _ _ hp⟩, ?_, ?_⟩
    · rintro j σ' H' hj ⟨k, o, rfl, s5, hp5⟩
      refine s_seq (s_set (K := K) (d := .int (seedM sd (10 + (j : Nat)))) (ei_call (R := Rseed) (ea_cons (ei_var (i := 2) rfl (.int sd)) (ea_cons (ei_add ei_int (ei_var (i := 4) rfl (.int _))) ea_nil)) ⟨_, _, rfl, rfl⟩) fun v H6 s6 hv => ?_)
      cases dp_int hv
      dsimp only
      generalize ho : seedM sd (10 + (j : Nat)) = on
      have hn4 : 0 ≤ on / 11 % 4 ∧ on / 11 % 4 < 4 := ⟨Int.emod_nonneg _ (by decide), Int.emod_lt_of_pos _ (by decide)⟩
      have hM : ((1 + on / 11 % 4).toNat : Int) = 1 + on / 11 % 4 := by omega
      have hj3 : (partL sd j).length = j := by unfold partL; rw [List.length_map, List.length_range]
      refine s_append (K := K) (d := .str (nameS on)) rfl (s6 _ _ hp5) (by rw [List.length_map, hj3]; omega) ?_ fun v H7 s7 hv => ?_
      · refine EI.of_eq (ei_join (ys := (nameL on).map fun c => (⟨#[c]⟩ : Str)) ei_str (EL.ei (EL.of_eq (el_lcR (i := 6) (n := (1 + on / 11 % 4).toNat) (fun _ => true) (fun j => .str ⟨#[SM.cps.toList.getD (pickM (seedM on (j : Nat)) 26).toNat 97]⟩) (ea_cons (EI.of_eq (ei_add ei_int (ei_mod (ei_fdiv (ei_var (i := 5) rfl (.int on)) ei_int ⟨by decide, by decide⟩) ei_int (by decide))) (by rw [hM])) ea_nil) (by omega) fun j2 hj2 H8 s8 => ⟨et_yes, fun _ => ⟨?_, rfl⟩⟩) ?_)) ?_) ?_
        · refine ei_ixS (ei_var (i := 1) rfl (.str SM)) (ei_call (R := Rpick) (ea_cons (ei_call (R := Rseed) (ea_cons (ei_var (i := 5) rfl (.int on)) (ea_cons (ei_var (i := 6) rfl (.int _)) ea_nil)) ⟨_, _, rfl, rfl⟩) (ea_cons (ei_int (i := 26)) ea_nil)) ⟨_, _, rfl, by decide, rfl⟩) (by decide +kernel) ?_
          have hl : SM.cps.toList.length = 26 := by decide +kernel
          exact atI_getD 97 (Int.emod_nonneg _ (by decide)) (by rw [hl]; exact Int.emod_lt_of_pos _ (by decide))
        · unfold fm nameL
          rw [List.filter_eq_self.mpr (fun _ _ => rfl), List.map_map, List.map_map]
          rfl
        · have e1 : (((nameL on).map fun c => (⟨#[c]⟩ : Str)).map (·.length)).sum = (nameL on).length := by
            rw [List.map_map]
            generalize nameL on = l
            induction l with
            | nil => rfl
            | cons x l ih => rw [List.map_cons, List.sum_cons, ih, List.length_cons]; show 1 + _ = _; omega
          have e2 : (nameL on).length ≤ 4 := by unfold nameL; rw [List.length_map, List.length_range]; omega
          rw [e1]
          show (nameL on).length + _ * 0 ≤ 16777216
          omega
        · rw [TL.join_eq]
          exact congrArg PyData.str (join_signs (nameL on))
      · cases dp_str hv
        refine ⟨_, _, rfl, Same.mut (s5.trans (s6.trans s7)) hpH, ?_⟩
        rw [upd_same]
        unfold partL
        rw [List.range_succ, List.map_append, List.map_append, ← ho]
        rfl
    · rintro σ' H' ⟨k, o, rfl, s5, hp5⟩
      dsimp only
      have hPL : (partL sd (1 + sd / 7 % 3).toNat).length = (1 + sd / 7 % 3).toNat := by unfold partL; rw [List.length_map, List.length_range]
      have hPN : ∀ z ∈ partL sd (1 + sd / 7 % 3).toNat, isName (.str z) = true ∧ strSmall (.str z) = true := fun z hz => by
        obtain ⟨q, _, rfl⟩ := List.mem_map.mp hz
        exact ⟨nameS_is _, nameS_small _⟩
      generalize partL sd (1 + sd / 7 % 3).toNat = ps at hp5 hPL hPN
      have hP1 : 1 ≤ ps.length ∧ ps.length ≤ 3 := by omega
      have aP : Dp K H' (.ref p) (.list (ps.map PyData.str)) := .lst (SqL.of hp5) (dpA_strs' ps)
      -- word
      have hc1 : 0 ≤ ns.getD 1 0 % 4 ∧ ns.getD 1 0 % 4 < 4 := ⟨Int.emod_nonneg _ (by decide), Int.emod_lt_of_pos _ (by decide)⟩
      obtain ⟨w, hw, hwi⟩ := wordsD_get (ns.getD 1 0 % 4).toNat (by omega)
      refine s_seq (s_set (K := K) (d := .str w) (ei_ixL (ds := wordsD) (EL.ei (el_lst (ea_cons ei_str (ea_cons ei_str (ea_cons ei_str (ea_cons ei_str ea_nil)))) (by decide))) (ei_mod (cell 1 _ _ _ s5 rfl) ei_int (by decide)) (by rw [atI_getD (xs := wordsD) (.str "sum") hc1.1 hc1.2, hw])) fun v H6 s6 hv => ?_)
      cases dp_str hv
      dsimp only
      -- recipe
      have hc2 : 0 ≤ ns.getD 2 0 % 9 ∧ ns.getD 2 0 % 9 < 9 := ⟨Int.emod_nonneg _ (by decide), Int.emod_lt_of_pos _ (by decide)⟩
      refine s_seq (s_set (K := K) (ei_tup (ea_cons (ei_var (i := 7) rfl (.str w)) (ea_cons (ei_tupOf (ei_var (i := 3) rfl (dp_same s6 _ _ aP))) (ea_cons (ei_add ei_int (ei_mod (cell 2 _ _ _ (s5.trans s6) rfl) ei_int (by decide))) ea_nil))) (by show 3 ≤ 100000; decide)) fun v8 H7 s7 hv8 => ?_)
      dsimp only
      have hR : isRecipe (.tuple [.str w, .tuple (ps.map PyData.str), .int (1 + ns.getD 2 0 % 9)]) = true := by
        show (inD (.str w) wordsD && ((decide ((1 : Int) ≤ ((ps.map PyData.str).length : Nat)) && decide ((((ps.map PyData.str).length : Nat) : Int) ≤ 3)) && ((ps.map PyData.str).all isName && (decide (1 ≤ 1 + ns.getD 2 0 % 9) && decide (1 + ns.getD 2 0 % 9 ≤ 9))))) = true
        rw [List.length_map, hwi, decide_eq_true (by omega), decide_eq_true (by omega), decide_eq_true (by omega), decide_eq_true (by omega)]
        have : (ps.map PyData.str).all isName = true := List.all_eq_true.mpr fun x hx => by
          obtain ⟨z, hz, rfl⟩ := List.mem_map.mp hx
          exact (hPN z hz).1
        rw [this]
        rfl
      have hRs : recSmall (.tuple [.str w, .tuple (ps.map PyData.str), .int (1 + ns.getD 2 0 % 9)]) = true := by
        show (decide ((ps.map PyData.str).length ≤ 100000) && (ps.map PyData.str).all strSmall) = true
        rw [List.length_map, decide_eq_true (by omega), Bool.true_and]
        exact List.all_eq_true.mpr fun x hx => by
          obtain ⟨z, hz, rfl⟩ := List.mem_map.mp hx
          exact (hPN z hz).2
      generalize hrd : PyData.tuple [.str w, .tuple (ps.map PyData.str), .int (1 + ns.getD 2 0 % 9)] = rd at hv8 hR hRs
      -- values
      have s67 := s6.trans s7
      have s57 := s5.trans s67
      refine s_seq (s_set (K := K) (d := .tuple (((List.range ps.length).map fun k => some (valueM (seedM (ns.getD (3 + k) 0) (k : Nat)))).map ov)) (EI.of_eq (ei_tupOfL (el_lcR (i := 4) (n := ps.length) (fun _ => true) (fun k => .int (valueM (seedM (ns.getD (3 + k) 0) (k : Nat)))) (ea_cons (EI.of_eq (ei_len (ei_var (i := 3) rfl (dp_same s67 _ _ aP)) rfl) (by show PyData.int (((ps.map PyData.str).length : Nat) : Int) = _; rw [List.length_map])) ea_nil) (by omega) fun k2 hk2 H8 s8 => ⟨et_yes, fun _ => ⟨?_, rfl⟩⟩)) ?_) fun v9 H8 s8 hv9 => ?_)
      · refine ei_call (R := Rval) (ea_cons (ei_call (R := Rseed) (ea_cons (ei_call (R := Rcell) (ea_cons (ei_var (i := 0) rfl (dp_same (s57.trans s8) _ _ a0)) (ea_cons (EI.of_eq (ei_add ei_int (ei_var (i := 4) rfl (.int _))) (show PyData.int (3 + (k2 : Nat)) = .int ((3 + k2 : Nat) : Int) from by congr 1)) ea_nil)) ⟨ns, 3 + k2, rfl, rfl⟩) (ea_cons (ei_var (i := 4) rfl (.int _)) ea_nil)) ⟨_, _, rfl, rfl⟩) ea_nil) ⟨_, rfl, rfl⟩
      · unfold fm
        rw [List.filter_eq_self.mpr (fun _ _ => rfl), List.map_map]
        rfl
      dsimp only
      have hvl : ((List.range ps.length).map fun k => some (valueM (seedM (ns.getD (3 + k) 0) (k : Nat)))).length = ps.length := by rw [List.length_map, List.length_range]
      have hvo : valsOk ((List.range ps.length).map fun k => some (valueM (seedM (ns.getD (3 + k) 0) (k : Nat)))) := fun i hi => by
        obtain ⟨k, _, e⟩ := List.mem_map.mp hi
        have e2 := Option.some.inj e
        rw [← e2]
        exact valueM_ok _
      generalize (List.range ps.length).map (fun k => some (valueM (seedM (ns.getD (3 + k) 0) (k : Nat)))) = vs0 at hv9 hvl hvo
      have s58 := s57.trans s8
      -- perhaps None first
      refine s_seq (s_ifSet (K := K) (i := 9) (b := decide (ns.getD 6 0 % 5 = 0)) (d := .tuple ((none :: vs0.drop 1).map ov)) (d0 := .tuple (vs0.map ov)) rfl (et_test (ei_eqI (ei_mod (cell 6 _ _ _ s58 rfl) ei_int (by decide)) ei_int)) (fun _ => ?_) hv9 fun v9' H9 s9 hv9' => ?_)
      · refine EI.of_eq (ei_catA (ei_tup (ea_cons ei_non ea_nil) (by decide)) (ei_from (n := 1) (ei_var (i := 9) rfl hv9) ei_int) (by rw [List.length_drop, List.length_map, hvl]; show 1 + _ ≤ _; omega)) ?_
        rw [List.map_cons, List.map_drop]
        rfl
      dsimp only
      obtain ⟨vs, hvs, hvl2, hvo2⟩ : ∃ vs : List (Option Int), Dp K H9 v9' (.tuple (vs.map ov)) ∧ vs.length = ps.length ∧ valsOk vs := by
        by_cases c : ns.getD 6 0 % 5 = 0
        · rw [if_pos (decide_eq_true c)] at hv9'
          refine ⟨_, hv9', by rw [List.length_cons, List.length_drop]; omega, fun i hi => ?_⟩
          rcases List.mem_cons.mp hi with e | e
          · cases e
          · exact hvo i (List.mem_of_mem_drop e)
        · rw [if_neg (by rw [decide_eq_false c]; decide)] at hv9'
          exact ⟨_, hv9', hvl, hvo⟩
      have s59 := s58.trans s9
      have hv8' := dp_same (s8.trans s9) _ _ hv8
      have hne : vs ≠ [] := fun e => by rw [e] at hvl2; have : 0 = ps.length := hvl2; omega
      have hmk := madeOf_ok (hrd ▸ hR) (by rw [List.length_map]; exact hvl2) hvo2
      rw [hrd] at hmk
      -- the first test
      refine s_seq (s_ifF (K := K) (et_orF (et_test (EI.of_eq (ei_notB (ei_call (R := fun ds d => ∃ x, ds = [x] ∧ recSmall x = true ∧ d = .bool (isRecipe x)) (ea_cons (ei_var (i := 8) rfl hv8') ea_nil) ⟨_, rfl, hRs, by rw [hR]⟩) ei_bl) rfl)) (et_test (EI.of_eq (ei_neD (ei_callR (R := fun ds r => ∃ x y, ds = [x, y] ∧ recSmall x = true ∧ (∀ vs, y = .tuple vs → immAll vs = true ∧ vs.length ≤ 1000) ∧ r = madeOf x y) (ea_cons (ei_var (i := 8) rfl hv8') (ea_cons (ei_var (i := 9) rfl hvs) ea_nil)) ⟨_, _, rfl, hRs, fun ys e => by cases e; exact ⟨imm_ovs vs, by rw [List.length_map]; omega⟩, hmk.symm⟩) (ei_call (R := Rlo) (ea_cons (ei_var (i := 7) rfl (.str w)) (ea_cons (ei_var (i := 9) rfl hvs) ea_nil)) ⟨w, vs, rfl, hne, hwi, hvo2, rfl⟩) (ov_shaped _) (ov_shaped _)) (by rw [eqv_ov]; rfl)))) fun H10 s10 => ?_)
      dsimp only [tNext]
      have s50 := s59.trans s10
      have hv8a := dp_same s10 _ _ hv8'
      have hvsa := dp_same s10 _ _ hvs
      -- odd
      have ta : ∀ (σ : L2.St) (H : Hp), EI K (tTup (tCons (tC (.str "a")) tNil)) σ H (.tuple [.str "a"]) := fun σ H => ei_tup (ea_cons ei_str ea_nil) (by decide)
      have i1 : ∀ (σ : L2.St) (H : Hp) (n : Int), EI K (tC (.int n)) σ H (.int n) := fun σ H n => ei_int
      have tS : ∀ (σ : L2.St) (H : Hp) (z : Str), EI K (tC (.str z)) σ H (.str z) := fun σ H z => ei_str
      have t3 : ∀ (σ : L2.St) (H : Hp) (a b c : TE) (x y z : PyData), EI K a σ H x → EI K b σ H y → EI K c σ H z → EI K (tTup (tCons a (tCons b (tCons c tNil)))) σ H (.tuple [x, y, z]) := fun σ H a b c x y z h1 h2 h3 => ei_tup (ea_cons h1 (ea_cons h2 (ea_cons h3 ea_nil))) (by show 3 ≤ 100000; decide)
      have t1 : ∀ (σ : L2.St) (H : Hp) (a : TE) (x : PyData), EI K a σ H x → EI K (tTup (tCons a tNil)) σ H (.tuple [x]) := fun σ H a x h1 => ei_tup (ea_cons h1 ea_nil) (by show 1 ≤ 100000; decide)
      refine s_seq (s_setL (K := K) (el_lst (ea_cons ei_non (ea_cons (ei_tup ea_nil (by decide)) (ea_cons ei_str (ea_cons (t1 _ _ _ _ ei_str) (ea_cons (ei_tup (ea_cons ei_str (ea_cons (ta _ _) ea_nil)) (by decide)) (ea_cons (t3 _ _ _ _ _ _ _ _ ei_str (ta _ _) ei_int) (ea_cons (t3 _ _ _ _ _ _ _ _ ei_str ei_str ei_int) (ea_cons (t3 _ _ _ _ _ _ _ _ ei_str (EL.ei (el_lst (ea_cons ei_str ea_nil) (by decide))) ei_int) ea_nil)))))))) (by decide)) fun p1 w1 H11 s11 f11 h11 d11 => ?_)
      dsimp only
      refine s_seq (s_setL (K := K) (el_catV (i := 10) rfl h11 d11.1 (el_lst (ea_cons (t3 _ _ _ _ _ _ _ _ ei_str (ei_tup ea_nil (by decide)) ei_int) (ea_cons (t3 _ _ _ _ _ _ _ _ ei_str (ei_repT (k := 4) (ta _ _) ei_int (by simp) (by decide) (by decide) (by decide)) ei_int) (ea_cons (t3 _ _ _ _ _ _ _ _ ei_str (ta _ _) ei_int) (ea_cons (t3 _ _ _ _ _ _ _ _ ei_str (ta _ _) ei_int) (ea_cons (t3 _ _ _ _ _ _ _ _ ei_str (ta _ _) ei_bl) ea_nil))))) (by decide)) (by decide)) fun p2 w2 H12 s12 f12 h12 d12 => ?_)
      dsimp only
      refine s_seq (s_setL (K := K) (ds := oddD) (el_catV (i := 10) rfl h12 d12.1 (el_lst (ea_cons (t3 _ _ _ _ _ _ _ _ ei_str (t1 _ _ _ _ ei_str) ei_int) (ea_cons (t3 _ _ _ _ _ _ _ _ ei_str (t1 _ _ _ _ ei_str) ei_int) (ea_cons (t3 _ _ _ _ _ _ _ _ ei_str (t1 _ _ _ _ ei_str) ei_int) (ea_cons (EL.ei (el_lst (ea_cons ei_str (ea_cons (ta _ _) (ea_cons ei_int ea_nil))) (by decide))) (ea_cons (t3 _ _ _ _ _ _ _ _ ei_int (ta _ _) ei_int) ea_nil))))) (by decide)) (by decide)) fun p3 w3 H13 s13 f13 h13 d13 => ?_)
      dsimp only
      have s513 := s50.trans (s11.trans (s12.trans s13))
      -- bad
      have hc7 : 0 ≤ ns.getD 7 0 % 18 ∧ ns.getD 7 0 % 18 < 18 := ⟨Int.emod_nonneg _ (by decide), Int.emod_lt_of_pos _ (by decide)⟩
      refine s_seq (s_set (K := K) (d := oddD.getD (ns.getD 7 0 % 18).toNat .none) (ei_ixL (ei_var (i := 10) rfl (.lst (SqL.of h13) d13.1)) (ei_mod (cell 7 _ _ _ s513 rfl) ei_int (by decide)) (atI_getD (xs := oddD) .none hc7.1 hc7.2)) fun v11 H14 s14 hv11 => ?_)
      dsimp only
      obtain ⟨hB1, hB2⟩ : isRecipe (oddD.getD (ns.getD 7 0 % 18).toNat .none) = false ∧ recSmall (oddD.getD (ns.getD 7 0 % 18).toNat .none) = true := oddD_no _ (by
        exact getD_mem (by show _ < 18; omega))
      generalize oddD.getD (ns.getD 7 0 % 18).toNat .none = bd at hv11 hB1 hB2
      have s1014 := s11.trans (s12.trans (s13.trans s14))
      have hvsb := dp_same s1014 _ _ hvsa
      have hv8b := dp_same s1014 _ _ hv8a
      have s514 := s50.trans s1014
      -- none
      have e9 : ∀ (σ : L2.St) (H' : Hp), σ[9]? = some (some v9') → Same H14 H' → EI K (tVar 9) σ H' (.tuple (vs.map ov)) := fun σ H' hσ s => ei_var hσ (dp_same s _ _ hvsb)
      have e91 : ∀ (σ : L2.St) (H' : Hp), σ[9]? = some (some v9') → Same H14 H' → EI K (tSl (rSlA K) (tVar 9) (tPart (tC (.int 1))) tNoPart) σ H' (.tuple ((vs.map ov).drop 1)) := fun σ H' hσ s => ei_from (n := 1) (e9 σ H' hσ s) ei_int
      have e92 : ∀ (σ : L2.St) (H' : Hp) (a : TE) (x : PyData), σ[9]? = some (some v9') → Same H14 H' → EI K a σ H' x → EI K (tOp (rCatA K) (tTup (tCons a tNil)) (tSl (rSlA K) (tVar 9) (tPart (tC (.int 1))) tNoPart)) σ H' (.tuple ([x] ++ (vs.map ov).drop 1)) := fun σ H' a x hσ s ha => ei_catA (t1 _ _ _ _ ha) (e91 σ H' hσ s) (by rw [List.length_drop, List.length_map, hvl2]; show 1 + _ ≤ _; omega)
      refine s_seq (s_setL (K := K) (ds := [.none, .list (vs.map ov), .tuple (vs.map ov ++ [.int 1]), .tuple ((vs.map ov).drop 1), .tuple ([.int (-1)] ++ (vs.map ov).drop 1), .tuple ([.bool true] ++ (vs.map ov).drop 1)]) (el_lst (ea_cons ei_non (ea_cons (EL.ei (el_listOfT (e9 _ _ rfl (Same.refl _)) rfl)) (ea_cons (ei_catA (e9 _ _ rfl (Same.refl _)) (t1 _ _ _ _ ei_int) (by rw [List.length_map]; show _ + 1 ≤ _; omega)) (ea_cons (e91 _ _ rfl (Same.refl _)) (ea_cons (e92 _ _ _ _ rfl (Same.refl _) (ei_neg ei_int)) (ea_cons (e92 _ _ _ _ rfl (Same.refl _) ei_bl) ea_nil)))))) (by show 6 ≤ 100000; decide)) fun p4 w4 H15 s15 f15 h15 d15 => ?_)
      dsimp only
      have l4 := dpA_len d15.1
      refine s_seq (s_append (K := K) (i := 12) (d := .tuple ([.int 10000] ++ (vs.map ov).drop 1)) rfl h15 (by rw [l4]; show 6 < 100000; decide) (e92 _ _ _ _ rfl s15 ei_int) fun v16 H16 s16 hv16 => ?_)
      dsimp only
      have h16 : H16 p4 = some (.lst w4) := s16 _ _ h15
      have im : imm (.tuple ([.int 10000] ++ (vs.map ov).drop 1)) = true := immAll_of fun x hx => by
        rcases List.mem_append.mp hx with e | e
        · rw [List.mem_singleton.mp e]; rfl
        · exact immAll_mem (imm_ovs vs) (List.mem_of_mem_drop e)
      have s17 : Same H14 (upd H16 p4 (.lst (w4 ++ [v16]))) := Same.mut (s15.trans s16) f15
      have d17 : DpAll K (upd H16 p4 (.lst (w4 ++ [v16]))) (w4 ++ [v16]) (noneD (vs.map ov)) := by
        refine dpA_app ?_ (.cons (dp_keep (keepT_lst h16) _ _ im hv16) .nil)
        have q := d15.2 (w4 ++ [v16])
        have sm : Same (upd H15 p4 (.lst (w4 ++ [v16]))) (upd H16 p4 (.lst (w4 ++ [v16]))) := fun b o e => by
          by_cases hb : b = p4
          · subst hb
            rw [upd_same] at e ⊢
            exact e
          · rw [upd_ne hb] at e ⊢
            exact s16 _ _ e
        exact dpA_same sm _ _ q
      have h17 : (upd H16 p4 (.lst (w4 ++ [v16]))) p4 = some (.lst (w4 ++ [v16])) := upd_same
      generalize upd H16 p4 (.lst (w4 ++ [v16])) = H17 at s17 d17 h17
      generalize w4 ++ [v16] = w5 at d17 h17
      -- caught
      refine s_seq (s_setL (K := K) (el_lst ea_nil (by decide)) fun pc wc H18 s18 f18 h18 d18 => ?_)
      cases d18.1
      dsimp only
      have hno := noneD_no (vs := vs.map ov) (hrd ▸ hR) (by rw [List.length_map, List.length_map]; exact hvl2) (by rw [List.length_map]; omega)
      rw [hrd] at hno
      have hc8 : 0 ≤ ns.getD 8 0 % 7 ∧ ns.getD 8 0 % 7 < 7 := ⟨Int.emod_nonneg _ (by decide), Int.emod_lt_of_pos _ (by decide)⟩
      refine s_seq (s_forR (K := K) (n := 2) (ea_cons ei_int ea_nil) (by decide) fun H19 s19 => ?_)
      refine ⟨fun j σ' H' => ∃ y, σ' = [some (.ref a), some (.str SM), some (.int sd), some (.ref p), k, o, none, some (.str w), some v8, some v9', some (.ref p3), some v11, some (.ref p4), some (.ref pc), y] ∧ Same H17 H' ∧ H' pc = some (.lst (([.str "recipe", .str "value"] : List V).take j)),
        ⟨none, rfl, s18.trans s19, s19 _ _ h18⟩, ?_, ?_⟩
      · rintro j σ' H' hj ⟨y, rfl, s20, h20⟩
        have s520 := s514.trans (s17.trans s20)
        have b8 := dp_same (s17.trans s20) _ _ hv8b
        have b11 := dp_same (s17.trans s20) _ _ hv11
        match j, hj with
        | 0, _ =>
          refine s_ifT (K := K) (et_test (EI.of_eq (ei_eqI (ei_var (i := 14) rfl (.int _)) ei_int) (congrArg PyData.bool (by decide)))) fun H21 s21 => ?_
          refine s_callSErr (K := K) (c := "BadRecipe") (ea_cons (ei_var (i := 11) rfl (dp_same s21 _ _ b11)) (ea_cons ei_non ea_nil)) ⟨bd, .none, rfl, hB2, fun ys e => (by cases e), (madeOf_bad hB1).symm⟩ fun H22 s22 => ?_
          refine ⟨true, T.exm_BadRecipe_BadRecipe, fun _ e0 _ => ?_, fun z => by cases z⟩
          refine s_append (K := K) (i := 13) (d := .str "recipe") rfl ((s21.trans s22) _ _ h20) (by show 0 < 100000; decide) ei_str fun v23 H23 s23 hv23 => ?_
          cases dp_str hv23
          exact ⟨_, rfl, Same.mut (s20.trans (s21.trans (s22.trans s23))) f18, upd_same⟩
        | 1, _ =>
          refine s_ifF (K := K) (et_test (EI.of_eq (ei_eqI (ei_var (i := 14) rfl (.int _)) ei_int) (congrArg PyData.bool (by decide)))) fun H21 s21 => ?_
          refine s_callSErr (K := K) (c := "BadValue") (ea_cons (ei_var (i := 8) rfl (dp_same s21 _ _ b8)) (ea_cons (ei_ixL (ds := noneD (vs.map ov)) (ei_var (i := 12) rfl (.lst (SqL.of ((s20.trans s21) _ _ h17)) (dpA_same (s20.trans s21) _ _ d17))) (ei_mod (ei_callS (R := Rcell) (ea_cons (ei_var (i := 0) rfl (dp_same (s520.trans s21) _ _ a0)) (ea_cons ei_int ea_nil)) ⟨ns, 8, rfl, rfl⟩) ei_int (by decide)) (atI_getD (xs := noneD (vs.map ov)) .none hc8.1 hc8.2)) ea_nil)) ⟨rd, _, rfl, hRs, fun ys e => ?_, (hno _ ?_).symm⟩ fun H22 s22 => ?_
          · exact noneD_imm (imm_ovs vs) (by rw [List.length_map]; omega) _ (by
              exact getD_mem (by show _ < 7; omega)) ys e
          · exact getD_mem (by show _ < 7; omega)
          · refine ⟨false, T.exm_BadValue_BadRecipe, fun z => (by cases z), fun _ => ⟨true, T.exm_BadValue_BadValue, fun _ e0 _ => ?_, fun z => by cases z⟩⟩
            refine s_append (K := K) (i := 13) (d := .str "value") rfl ((s21.trans s22) _ _ h20) (by show 1 < 100000; decide) ei_str fun v23 H23 s23 hv23 => ?_
            cases dp_str hv23
            exact ⟨_, rfl, Same.mut (s20.trans (s21.trans (s22.trans s23))) f18, upd_same⟩
      · rintro σ' H' ⟨y, rfl, s20, h20⟩
        dsimp only
        have b11 := dp_same (s17.trans s20) _ _ hv11
        refine s_ret (K := K) (d := .bool true) (ei_andT (EI.of_eq (ei_eqD (d := .list [.str "recipe", .str "value"]) (ei_var (i := 13) rfl (.lst (SqL.of h20) (.cons (.str _) (.cons (.str _) .nil)))) (EL.ei (el_lst (ea_cons ei_str (ea_cons ei_str ea_nil)) (by decide))) (by decide +kernel) (by decide +kernel)) (congrArg PyData.bool (by decide +kernel))) (EI.of_eq (ei_isB (ei_call (R := fun ds d => ∃ x, ds = [x] ∧ recSmall x = true ∧ d = .bool (isRecipe x)) (ea_cons (ei_var (i := 11) rfl b11) ea_nil) ⟨_, rfl, hB2, by rw [hB1]⟩) ei_bl) rfl)) fun v21 H21 s21 hv21 => ?_
        cases dp_bl hv21
        exact hQ H21

def loose0 : List Str := ["MillError", "BadValue", "BadRecipe", "SMALL", "ROUND", "WORDS", "MOST_PARTS", "MOST_LONG", "is_within", "is_name", "look_value", "is_recipe", "look_recipe", "outcome", "made_of", "_law_cell"]
def loose1 : List Str := ["_law_seed", "_law_pick", "_law_value", "_law_outcome"]
def loose : List Str := loose0 ++ loose1
abbrev R : PySem.W.OpenRow := PySem.W.OpenLaw.row PySem.Challenge.rw_millshelf_k02_recipes
abbrev hk : PySem.W.Hook := He.hookX 5 fa fn ts [] exB
def ob (s : PySem.W.SharedT) : He.AlX := He.obsX 5 fa fn ts [] exB (HandSHeadRun.getT s)
theorem ob_eq (s : PySem.W.SharedT) : ob s = hk.obs s.abs := He.obsX_eq (HandSHeadRun.getT_eq s)
theorem run (w : World) : HandSHeadRun.RunEq R (PySem.W.view R.prog [23]) hk ob 3000 loose w := by
  intro os
  kernel_rfl
end Ml
open PySem PySem.W PySem.Calls PyProof.Rows
set_option maxHeartbeats 0 in
theorem PySem.Challenge.cw_millshelf_k02_recipes_holds : PySem.Challenge.rw_millshelf_k02_recipes.Holds := by
  w_on; o_law
  refine HandSHeadRun.head_any (r := OpenLaw.row PySem.Challenge.rw_millshelf_k02_recipes) (q := view (OpenLaw.row PySem.Challenge.rw_millshelf_k02_recipes).prog [23]) (H := Ml.hk) (ob := Ml.ob) (M := 3000) (loose := Ml.loose) (d := HandSHeadRun.topDef (OpenLaw.row PySem.Challenge.rw_millshelf_k02_recipes).prog 23) (kwd := []) Ml.ob_eq
    (by kernel_rfl) (fun s => by kernel_rfl) Ml.run (by kernel_rfl) (by kernel_rfl) (by kernel_rfl) (by rfl) (by first | assumption | decide +kernel) (by decide +kernel) ⟨rfl, rfl, rfl, rfl, rfl, by decide +kernel⟩ ?hw ?hc
  case hw => w_witness2
  case hc =>
    refine L2.walk_ofE (l := PySem.Challenge.rw_millshelf_k02_recipes) (n := 63) (k := 5) (x := "script") (CX := L2.CX0) rfl (by decide) (by kernel_rfl) ⟨rfl, by decide, by decide⟩ ?F (fun _ _ _ _ z => z)
    intro w mg fa h Y G hmg0
    obtain ⟨K, KX, c⟩ := Y
    have hmg : mg ("law" : PySem.Str) = some (.ref fa) := by
      have e : (HandSHeadRun.topDef (OpenLaw.row PySem.Challenge.rw_millshelf_k02_recipes).prog 23).name = ("law" : PySem.Str) := by kernel_rfl
      rw [← e]
      exact hmg0
    have T : Ml.Tx w K mg := ⟨c.t, c.more, h, KX, G⟩
    have e := hmg.symm.trans T.g_law
    cases e
    obtain ⟨fd, hb, hF⟩ := Ml.ok_law (P := (PySem.Challenge.rw_millshelf_k02_recipes).prog) T
    exact ⟨K, fd, Ml.sp_law K, KX, hb, fun H a ns hl _ hS => ⟨a, ns, rfl, hS, hl, fun _ => rfl⟩, fun base _ _ => Ml.FnOk_calm (hF base) fun _ _ _ _ h => h⟩
