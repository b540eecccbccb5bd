import PyProof.Rows.All
import Wide.All
import OpenK.AllK
import Wide.FinOn
import HandS.ForMost
import HandS.Deep
import HandS.Style
import HandS.Wide
import HandS.WideBits
import HandS.IsInst
import KE.DataEq
import HandS.Exc
import HandS.ExcInit
import HandS.ExcField
import HandS.Defaults
import HandS.ExcBuiltin
import HandS.TupAny
import HandS.Walk
import KE.KExcInit
import KE.KExcIs
import HandS.MakeKw
import PySem.Challenge.RW_talkwatch_k79_refusals_made
set_option Elab.async false
set_option linter.all false
set_option maxRecDepth 100000
set_option maxHeartbeats 4000000
/-! Ly: data in an abstract heap (Dq), a frozen part within a heap (Fr), what an expression evaluates to as data (EvF, EvO, EvT, EvA). -/
namespace Ly
open PySem PySem.Spec PyProof.Rows L2

/-! ### data -/
def keyD : Key → PyData
  | .inl i => .int i
  | .inr s => .str s
mutual
inductive Dq (H : Hp) : V → PyData → Prop
  | non : Dq H .non .none
  | bl (b : Bool) : Dq H (.bl b) (.bool b)
  | int (i : Int) : Dq H (.int i) (.int i)
  | str (x : Str) : Dq H (.str x) (.str x)
  | lst {a : Addr} {xs : List V} {ds : List PyData} : H a = some (.lst xs) → DqAll H xs ds → Dq H (.ref a) (.list ds)
  | tup {a : Addr} {xs : List V} {ds : List PyData} : H a = some (.tup xs) → DqAll H xs ds → Dq H (.ref a) (.tuple ds)
  | dK {a : Addr} {kvs : List (Key × V)} {ds : List PyData} : H a = some (.dK kvs) → DqAll H (kvs.map (·.2)) ds → Dq H (.ref a) (.dict ((kvs.map fun kv => keyD kv.1).zip ds))
  | dT {a : Addr} {kvs : List (List Key × V)} {ds : List PyData} : H a = some (.dT kvs) → DqAll H (kvs.map (·.2)) ds → Dq H (.ref a) (.dict ((kvs.map fun kv => PyData.tuple (kv.1.map keyD)).zip ds))
inductive DqAll (H : Hp) : List V → List PyData → Prop
  | nil : DqAll H [] []
  | cons {v : V} {vs : List V} {d : PyData} {ds : List PyData} : Dq H v d → DqAll H vs ds → DqAll H (v :: vs) (d :: ds)
end
section
variable {H H' : Hp} {K : PySem.W.Frag}
mutual
theorem Dq.mono (k : ∀ a o, H a = some o → H' a = some o) : ∀ {v : V} {d : PyData}, Dq H v d → Dq H' v d
  | _, _, .non => .non
  | _, _, .bl b => .bl b
  | _, _, .int i => .int i
  | _, _, .str x => .str x
  | _, _, .lst e h => .lst (k _ _ e) (DqAll.mono k h)
  | _, _, .tup e h => .tup (k _ _ e) (DqAll.mono k h)
  | _, _, .dK e h => .dK (k _ _ e) (DqAll.mono k h)
  | _, _, .dT e h => .dT (k _ _ e) (DqAll.mono k h)
theorem DqAll.mono (k : ∀ a o, H a = some o → H' a = some o) : ∀ {vs : List V} {ds : List PyData}, DqAll H vs ds → DqAll H' vs ds
  | _, _, .nil => .nil
  | _, _, .cons h t => .cons (Dq.mono k h) (DqAll.mono k t)
end
mutual
theorem Dq.dp : ∀ {v : V} {d : PyData}, Dq H v d → d.plain = true → Dp K H v d
  | _, _, .non, _ => .non
  | _, _, .bl b, _ => .bl b
  | _, _, .int i, _ => .int i
  | _, _, .str x, _ => .str x
  | _, _, .lst e h, p => .lst (SqL.of e) (DqAll.dp h (by simpa only [PyData.plain] using p))
  | _, _, .tup e h, p => .tup (SqT.of e) (DqAll.dp h (by simpa only [PyData.plain] using p))
  | _, _, .dK e h, p => by simp only [PyData.plain] at p; cases p
  | _, _, .dT e h, p => by simp only [PyData.plain] at p; cases p
theorem DqAll.dp : ∀ {vs : List V} {ds : List PyData}, DqAll H vs ds → PyData.plainAll ds = true → DpAll K H vs ds
  | _, _, .nil, _ => .nil
  | _, _, .cons h t, p => by
    simp only [PyData.plainAll, Bool.and_eq_true] at p
    exact .cons (Dq.dp h p.1) (DqAll.dp t p.2)
end
theorem DqAll.length : ∀ {vs : List V} {ds : List PyData}, DqAll H vs ds → vs.length = ds.length
  | _, _, .nil => rfl
  | _, _, .cons _ t => by rw [List.length_cons, List.length_cons, DqAll.length t]
theorem DqAll.get : ∀ {vs : List V} {ds : List PyData} {i : Nat} {d : PyData}, DqAll H vs ds → ds[i]? = some d → ∃ v, vs[i]? = some v ∧ Dq H v d
  | _, _, _, _, .nil, e => by simp at e
  | _, _, 0, _, .cons h _, e => by simp at e; subst e; exact ⟨_, rfl, h⟩
  | _, _, i + 1, _, .cons _ t, e => by simpa using DqAll.get (i := i) t (by simpa using e)
theorem DqAll.getV : ∀ {vs : List V} {ds : List PyData} {i : Nat} {v : V}, DqAll H vs ds → vs[i]? = some v → ∃ d, ds[i]? = some d ∧ Dq H v d
  | _, _, _, _, .nil, e => by simp at e
  | _, _, 0, _, .cons h _, e => by simp at e; subst e; exact ⟨_, rfl, h⟩
  | _, _, i + 1, _, .cons _ t, e => by simpa using DqAll.getV (i := i) t (by simpa using e)
theorem DqAll.append : ∀ {vs ws : List V} {ds es : List PyData}, DqAll H vs ds → DqAll H ws es → DqAll H (vs ++ ws) (ds ++ es)
  | _, _, _, _, .nil, s => s
  | _, _, _, _, .cons h t, s => .cons h (DqAll.append t s)
theorem DqAll.take : ∀ {vs : List V} {ds : List PyData} (n : Nat), DqAll H vs ds → DqAll H (vs.take n) (ds.take n)
  | _, _, 0, _ => .nil
  | _, _, _ + 1, .nil => .nil
  | _, _, n + 1, .cons h t => .cons h (DqAll.take n t)
theorem DqAll.drop : ∀ {vs : List V} {ds : List PyData} (n : Nat), DqAll H vs ds → DqAll H (vs.drop n) (ds.drop n)
  | _, _, 0, r => r
  | _, _, _ + 1, .nil => .nil
  | _, _, n + 1, .cons _ t => DqAll.drop n t
theorem DqAll.reverse : ∀ {vs : List V} {ds : List PyData}, DqAll H vs ds → DqAll H vs.reverse ds.reverse
  | _, _, .nil => .nil
  | _, _, .cons h t => by
    rw [List.reverse_cons, List.reverse_cons]
    exact DqAll.append (DqAll.reverse t) (.cons h .nil)
theorem DqAll.eraseIdx : ∀ {vs : List V} {ds : List PyData} (i : Nat), DqAll H vs ds → DqAll H (vs.eraseIdx i) (ds.eraseIdx i)
  | _, _, _, .nil => .nil
  | _, _, 0, .cons _ t => t
  | _, _, i + 1, .cons h t => .cons h (DqAll.eraseIdx i t)
theorem Dq.intE {v : V} {i : Int} (h : Dq H v (.int i)) : v = .int i := by cases h; rfl
theorem Dq.blE {v : V} {b : Bool} (h : Dq H v (.bool b)) : v = .bl b := by cases h; rfl
theorem Dq.strE {v : V} {b : Str} (h : Dq H v (.str b)) : v = .str b := by cases h; rfl
theorem Dq.lstE {v : V} {ds : List PyData} (h : Dq H v (.list ds)) : ∃ a xs, v = .ref a ∧ H a = some (.lst xs) ∧ DqAll H xs ds := by cases h with | lst e h => exact ⟨_, _, rfl, e, h⟩
theorem Dq.tupE {v : V} {ds : List PyData} (h : Dq H v (.tuple ds)) : ∃ a xs, v = .ref a ∧ H a = some (.tup xs) ∧ DqAll H xs ds := by cases h with | tup e h => exact ⟨_, _, rfl, e, h⟩
theorem DqAll.strs : ∀ (ss : List Str), DqAll H (ss.map V.str) (ss.map PyData.str)
  | [] => .nil
  | s :: ss => .cons (.str s) (DqAll.strs ss)
theorem DqAll.strsE : ∀ {vs : List V} {ss : List Str}, DqAll H vs (ss.map PyData.str) → vs = ss.map V.str
  | _, [], h => by cases h; rfl
  | _, s :: ss, h => by
    cases h with
    | cons h t => rw [h.strE, DqAll.strsE t]; rfl
end

/-! ### a frozen part F of a heap H, grown to F2 within H2; what stands at M may have changed -/
structure Fr (M : Addr → Prop) (F H F2 H2 : Hp) : Prop where
  ff : Same F F2
  fh : Same F2 H2
  hh : ∀ a o, H a = some o → ¬ M a → H2 a = some o
  st : ∀ a, H2 a = none → H a = none
  nw : ∀ a o, F a = none → H a = some o → F2 a = none
abbrev M0 : Addr → Prop := fun _ => False
section
variable {M N : Addr → Prop} {F H F1 H1 F2 H2 : Hp} {p : Addr} {o o' : HO}
theorem Fr.refl (s : Same F H) : Fr M F H F H := ⟨fun _ _ h => h, s, fun _ _ h _ => h, fun _ h => h, fun _ _ h _ => h⟩
theorem Fr.trans (a : Fr M F H F1 H1) (b : Fr M F1 H1 F2 H2) : Fr M F H F2 H2 where
  ff := fun x o h => b.ff x o (a.ff x o h)
  fh := b.fh
  hh := fun x o h n => b.hh x o (a.hh x o h n) n
  st := fun x h => a.st x (b.st x h)
  nw := fun x o h1 h2 => by
    have n1 := a.nw x o h1 h2
    cases e : H1 x with
    | none => rw [a.st x e] at h2; cases h2
    | some u => exact b.nw x u n1 e
theorem Fr.mono (a : Fr M F H F1 H1) (h : ∀ x, M x → N x) : Fr N F H F1 H1 := ⟨a.ff, a.fh, fun x o e n => a.hh x o e fun z => n (h x z), a.st, a.nw⟩
theorem Fr.up (a : Fr M0 F H F1 H1) : Fr N F H F1 H1 := a.mono fun _ z => z.elim
theorem Fr.new (s : Same F H) (n : H p = none) : Fr M F H (upd F p o) (upd H p o) := by
  have nf : F p = none := s.free n
  refine ⟨fun a u e => ?_, fun a u e => ?_, fun a u e _ => ?_, fun a e => ?_, fun a u e1 e2 => ?_⟩
  · rw [upd_ne (ne_of_none e nf)]; exact e
  · by_cases h : a = p
    · subst h; rw [upd_same] at e ⊢; exact e
    · rw [upd_ne h] at e ⊢; exact s _ _ e
  · rw [upd_ne (ne_of_none e n)]; exact e
  · by_cases h : a = p
    · subst h; exact n
    · rw [upd_ne h] at e; exact e
  · rw [upd_ne (ne_of_none e2 n)]; exact e1
/-- a new object that isn't frozen -/
theorem Fr.own (s : Same F H) (n : H p = none) : Fr M F H F (upd H p o) := by
  refine ⟨fun a u e => e, fun a u e => ?_, fun a u e _ => ?_, fun a e => ?_, fun a u e1 _ => e1⟩
  · rw [upd_ne (ne_of_none (s _ _ e) n)]; exact s _ _ e
  · rw [upd_ne (ne_of_none e n)]; exact e
  · by_cases h : a = p
    · subst h; exact n
    · rw [upd_ne h] at e; exact e
/-- an object that isn't frozen is changed -/
theorem Fr.put (s : Same F H) (nf : F p = none) (m : M p) : Fr M F H F (upd H p o) := by
  refine ⟨fun a u e => e, fun a u e => ?_, fun a u e h => ?_, fun a e => ?_, fun a u e1 _ => e1⟩
  · rw [upd_ne (ne_of_none e nf)]; exact s _ _ e
  · rw [upd_ne (fun z => h (by rw [z]; exact m))]; exact e
  · by_cases h : a = p
    · subst h; rw [upd_same] at e; cases e
    · rw [upd_ne h] at e; exact e
/-- what was new is frozen -/
theorem Fr.take (a : Fr M F H F2 H2) (n : H p = none) (h : H2 p = some o) : Fr M F H (upd F2 p o) H2 := by
  refine ⟨fun x u e => ?_, fun x u e => ?_, a.hh, a.st, fun x u e1 e2 => ?_⟩
  · by_cases q : x = p
    · subst q
      rw [a.fh _ _ (a.ff _ _ e)] at h
      rw [upd_same]; exact h.symm
    · rw [upd_ne q]; exact a.ff _ _ e
  · by_cases q : x = p
    · subst q; rw [upd_same] at e; rw [← e]; exact h
    · rw [upd_ne q] at e; exact a.fh _ _ e
  · rw [upd_ne (ne_of_none e2 n)]; exact a.nw _ _ e1 e2
theorem Fr.same (a : Fr M F H F2 H2) : Same F F2 := a.ff
theorem Fr.inn (a : Fr M F H F2 H2) : Same F2 H2 := a.fh
end

/-! ### what expressions evaluate to -/
def EvF (te : TE) (σ : L2.St) (F : Hp) (d : PyData) : Prop := ∀ H, Same F H → ∀ Q : VK, (∀ v F2 H2, Fr M0 F H F2 H2 → Dq F2 v d → Q v H2) → te σ H Q
/-- a new list, not yet frozen -/
def EvO (te : TE) (σ : L2.St) (F : Hp) (ds : List PyData) : Prop := ∀ H, Same F H → ∀ Q : VK, (∀ p vs F2 H2, Fr M0 F H F2 H2 → H p = none → F2 p = none → H2 p = some (.lst vs) → DqAll F2 vs ds → Q (.ref p) H2) → te σ H Q
def EvT (tt : TT) (σ : L2.St) (F : Hp) (b : Bool) : Prop := ∀ H, Same F H → ∀ Q : Bool → Hp → Prop, (∀ F2 H2, Fr M0 F H F2 H2 → Q b H2) → tt σ H Q
def EvA (ta : TA) (σ : L2.St) (F : Hp) (ds : List PyData) : Prop := ∀ H, Same F H → ∀ Q : List V → Hp → Prop, (∀ vs F2 H2, Fr M0 F H F2 H2 → DqAll F2 vs ds → Q vs H2) → ta σ H Q
def EvI (to : TO) (σ : L2.St) (F : Hp) (o : Option Int) : Prop := ∀ H, Same F H → ∀ Q : Option Int → Hp → Prop, (∀ F2 H2, Fr M0 F H F2 H2 → Q o H2) → to σ H Q

section
variable {K : PySem.W.Frag} {σ : L2.St} {F F1 H : Hp} {ta tb te tx : TE} {t u : TT} {d e : PyData} {ds es : List PyData} {v : V}
theorem EvF.mono (k : Same F F1) (h : EvF te σ F d) : EvF te σ F1 d := fun H s Q q => h H (fun a o e => s a o (k a o e)) Q fun v F2 H2 fr dv => by
  have fr' : Fr M0 F1 H (fun a => match F1 a with | some o => some o | none => F2 a) H2 := by
    refine ⟨fun a o e => ?_, fun a o e => ?_, fr.hh, fr.st, fun a o e1 e2 => ?_⟩
    · show (match F1 a with | some o => some o | none => F2 a) = some o
      rw [e]
    · have e : (match F1 a with | some o => some o | none => F2 a) = some o := e
      cases z : F1 a with
      | some u => rw [z] at e; exact fr.hh _ _ (s _ _ (z.trans e)) fun z => z
      | none => rw [z] at e; exact fr.fh _ _ e
    · show (match F1 a with | some o => some o | none => F2 a) = none
      rw [e1]
      refine fr.nw a o ?_ e2
      cases z : F a with
      | none => rfl
      | some u => rw [k _ _ z] at e1; cases e1
  refine q v _ H2 fr' (dv.mono fun a o e => ?_)
  show (match F1 a with | some o => some o | none => F2 a) = some o
  cases z : F1 a with
  | none => exact e
  | some u =>
    show some u = some o
    have h1 := fr.fh _ _ e
    rw [fr.hh _ _ (s _ _ z) fun z => z] at h1
    exact h1
theorem ev_var {i : Nat} (h : σ[i]? = some (some v)) (hv : Dq F v d) : EvF (tVar i) σ F d := fun H s Q q => ⟨v, h, q v F H (Fr.refl s) hv⟩
theorem ev_c (hv : ∀ F, Dq F v d) : EvF (tC v) σ F d := fun H s Q q => q v F H (Fr.refl s) (hv _)
theorem ev_int {i : Int} : EvF (tC (.int i)) σ F (.int i) := ev_c fun _ => .int i
theorem ev_bl {i : Bool} : EvF (tC (.bl i)) σ F (.bool i) := ev_c fun _ => .bl i
theorem ev_str {i : Str} : EvF (tC (.str i)) σ F (.str i) := ev_c fun _ => .str i
theorem ev_non : EvF (tC .non) σ F .none := ev_c fun _ => .non
theorem EvO.f (h : EvO te σ F ds) : EvF te σ F (.list ds) := fun H s Q q => h H s Q fun p vs F2 H2 fr np nf hp dv =>
  q _ (upd F2 p (.lst vs)) H2 (fr.take np hp) (.lst upd_same (dv.mono fun a o e => by rw [upd_ne (ne_of_none e nf)]; exact e))
/-- a two-place operation -/
theorem ev_op {r : R2} {z : PyData} (ha : EvF ta σ F d) (hb : ∀ F1, Same F F1 → EvF tb σ F1 e)
    (hr : ∀ x y F1 H1 (Q : VK), Same F1 H1 → Dq F1 x d → Dq F1 y e → (∀ v F2 H2, Fr M0 F1 H1 F2 H2 → Dq F2 v z → Q v H2) → r x y H1 Q) : EvF (tOp r ta tb) σ F z := fun H s Q q =>
  ha H s _ fun x F1 H1 fr1 dx => hb F1 fr1.ff H1 fr1.fh _ fun y F2 H2 fr2 dy => hr x y F2 H2 Q fr2.fh (dx.mono fr2.ff) dy fun v F3 H3 fr3 dv => q v F3 H3 ((fr1.trans fr2).trans fr3) dv
theorem ev_I0 {g : Int → Int → V} {i j : Int} {z : PyData} (ha : EvF ta σ F (.int i)) (hb : EvF tb σ F (.int j)) (hz : ∀ F, Dq F (g i j) z) : EvF (tOp (rI0 g) ta tb) σ F z :=
  ev_op ha (fun _ k => hb.mono k) fun x y F1 H1 Q s dx dy q => ⟨i, j, dx.intE, dy.intE, q _ F1 H1 (Fr.refl s) (hz _)⟩
theorem ev_I {C : Int → Int → Prop} {g : Int → Int → V} {i j : Int} {z : PyData} (ha : EvF ta σ F (.int i)) (hb : EvF tb σ F (.int j)) (hc : C i j) (hz : ∀ F, Dq F (g i j) z) : EvF (tOp (rI C g) ta tb) σ F z :=
  ev_op ha (fun _ k => hb.mono k) fun x y F1 H1 Q s dx dy q => ⟨i, j, dx.intE, dy.intE, hc, q _ F1 H1 (Fr.refl s) (hz _)⟩
end

/-! ### operators over data of any depth -/
section
variable {X : Cx}
def rEqQ : R2 := fun x y H Q => ∃ d e, Dq H x d ∧ Dq H y e ∧ d.plain = true ∧ e.plain = true ∧ d.depth ≤ 60 ∧ Q (.bl (PyData.eqv d e)) H
def rNeQ : R2 := fun x y H Q => ∃ d e, Dq H x d ∧ Dq H y e ∧ d.plain = true ∧ e.plain = true ∧ d.depth ≤ 60 ∧ Q (.bl (!PyData.eqv d e)) H
theorem op_eqQ (hu : X.A.units + 64 < cLine) : OpR X (compareOp .Eq) rEqQ := by
  intro pins s σ H x y v u Q I rx ry h
  obtain ⟨d, e, hd, he, sd, se, dp, q⟩ := h
  obtain ⟨as, r1⟩ := Dp.reads I d x v (hd.dp sd) rx
  obtain ⟨bs, r2⟩ := Dp.reads I e y u (he.dp se) ry
  exact SeqAt.eq_plain r1 r2 sd se (Nat.lt_of_le_of_lt (Nat.add_le_add_left (Nat.le_trans (Nat.min_le_left _ _) (Nat.le_trans dp (by decide))) _) hu) ⟨.bl _, H, I, rfl, q⟩
theorem op_neQ (hu : X.A.units + 64 < cLine) : OpR X (compareOp .NotEq) rNeQ := by
  intro pins s σ H x y v u Q I rx ry h
  obtain ⟨d, e, hd, he, sd, se, dp, q⟩ := h
  obtain ⟨as, r1⟩ := Dp.reads I d x v (hd.dp sd) rx
  obtain ⟨bs, r2⟩ := Dp.reads I e y u (he.dp se) ry
  exact SeqAt.ne_plain r1 r2 sd se (Nat.lt_of_le_of_lt (Nat.add_le_add_left (Nat.le_trans (Nat.min_le_left _ _) (Nat.le_trans dp (by decide))) _) hu) ⟨.bl _, H, I, rfl, q⟩
/-- x in a list or tuple -/
def rInQ (neg : Bool) : R2 := fun x y H Q => ∃ d ds, Dq H x d ∧ (Dq H y (.list ds) ∨ Dq H y (.tuple ds)) ∧ d.plain = true ∧ PyData.plainAll ds = true ∧ d.depth ≤ 60 ∧ Q (.bl (if neg then !(ds.any fun z => PyData.eqv z d) else ds.any fun z => PyData.eqv z d)) H
theorem in_room {A : Around} {ds : List PyData} {d : PyData} (hu : A.units + 64 < cLine) (h : d.depth ≤ 60) : A.units + 1 + min (PyData.depthAll ds) d.depth < cLine := by
  have := Nat.min_le_right (PyData.depthAll ds) d.depth
  omega
theorem op_inQ (hu : X.A.units + 64 < cLine) : OpR X (compareOp .In) (rInQ false) := by
  intro pins s σ H x y v u Q I rx ry h
  obtain ⟨d, ds, hd, he, sd, se, dp, q⟩ := h
  obtain ⟨as, r1⟩ := Dp.reads I d x v (hd.dp sd) rx
  rcases he with he | he
  · obtain ⟨bs, r2⟩ := Dp.reads I (.list ds) y u (he.dp (by simpa only [PyData.plain] using se)) ry
    exact SeqAt.in_list_data r2 r1 se sd (in_room hu dp) ⟨.bl _, H, I, rfl, q⟩
  · obtain ⟨bs, r2⟩ := Dp.reads I (.tuple ds) y u (he.dp (by simpa only [PyData.plain] using se)) ry
    exact SeqAt.in_tuple_data r2 r1 se sd (in_room hu dp) ⟨.bl _, H, I, rfl, q⟩
theorem op_niQ (hu : X.A.units + 64 < cLine) : OpR X (compareOp .NotIn) (rInQ true) := by
  intro pins s σ H x y v u Q I rx ry h
  obtain ⟨d, ds, hd, he, sd, se, dp, q⟩ := h
  obtain ⟨as, r1⟩ := Dp.reads I d x v (hd.dp sd) rx
  rcases he with he | he
  · obtain ⟨bs, r2⟩ := Dp.reads I (.list ds) y u (he.dp (by simpa only [PyData.plain] using se)) ry
    exact SeqAt.notIn_list_data r2 r1 se sd (in_room hu dp) ⟨.bl _, H, I, rfl, q⟩
  · obtain ⟨bs, r2⟩ := Dp.reads I (.tuple ds) y u (he.dp (by simpa only [PyData.plain] using se)) ry
    exact SeqAt.notIn_tuple_data r2 r1 se sd (in_room hu dp) ⟨.bl _, H, I, rfl, q⟩
/-- len of a list or tuple (script, too) -/
def rLenQ (K : PySem.W.Frag) : List V → Hp → VK → Prop := fun xs H Q => ∃ p ys, xs = [.ref p] ∧ (SqL K H p ys ∨ SqT K H p ys) ∧ Q (.int ys.length) H
theorem call_lenQ : CallR X (.builtin "len") (rLenQ X.K) := call_len_seq
/-- a ** b of middling size -/
def CPowW (i j : Int) : Prop := 0 ≤ j ∧ (Builtin.Int.intBits i : Int) * j ≤ 2 ^ 27
theorem op_powW : OpR X (binaryOp .Pow) (rI CPowW fun i j => .int (i ^ j.toNat)) := opI fun _ _ _ _ _ _ _ hc q => pow_int hc.1 hc.2 q
end
/-! ### the rules with K told (within a comprehension's block the context is another, K the same) -/
section
variable {X : Cx} {te to : TE} {t : TA} {e o : Expr} {es : List Expr} {T id : String} {name : Str} {r : V → List V → Hp → VK → Prop}
theorem ix_seqK (K : PySem.W.Frag) (h : X.K = K) : IxR X (rIx K) := by subst h; exact ix_seq
theorem sl_listK (K : PySem.W.Frag) (h : X.K = K) : SlR X (rSlL K) := by subst h; exact sl_list
theorem sl_tupK (K : PySem.W.Frag) (h : X.K = K) : SlR X (rSlT K) := by subst h; exact sl_tup
theorem call_lenK (K : PySem.W.Frag) (h : X.K = K) : CallR X (.builtin "len") (rLenQ K) := by subst h; exact call_lenQ
def rListOf (K : PySem.W.Frag) : List V → Hp → VK → Prop := fun xs H Q => ∃ p ys, xs = [.ref p] ∧ (SqL K H p ys ∨ SqT K H p ys) ∧ ∀ l, H l = none → Q (.ref l) (upd H l (.lst ys))
theorem call_listK (K : PySem.W.Frag) (h : X.K = K) : CallR X (.type "list") (rListOf K) := by subst h; exact call_list_of
theorem call_isiK' (K : PySem.W.Frag) (h : X.K = K) : CallR X (.builtin "isinstance") (rIsi K) := by subst h; exact call_isi
theorem pe_revLK (K : PySem.W.Frag) (h : X.K = K) {k : Nat} {p1 p2 p3 pos : Pos} (he : PE X e te) : PE X (.Subscript e (.Slice none none (some (.UnaryOp .USub (.Constant (.int 1) k p1) p2)) p3) pos) (tRevL K te) := by subst h; exact pe_revL he
theorem pi_listK (K : PySem.W.Frag) (h : X.K = K) {tg : Expr} (he : PE X e te) : PI X tg e (iList K te) := by subst h; exact pi_list he
theorem pi_tupK (K : PySem.W.Frag) (h : X.K = K) {tg : Expr} (he : PE X e te) : PI X tg e (iTup K te) := by subst h; exact pi_tup he
theorem bmK (K : PySem.W.Frag) (h : X.K = K) (p : PE X e (tBM X.K T r to t)) : PE X e (tBM K T r to t) := by subst h; exact p
theorem bm0K (K : PySem.W.Frag) (h : X.K = K) (p : PE X e (tBM0 X.K T r to)) : PE X e (tBM0 K T r to) := by subst h; exact p
theorem fldK (K : PySem.W.Frag) (h : X.K = K) {f : Str} (p : PE X e (tFld X.K te f)) : PE X e (tFld K te f) := by subst h; exact p
end
section
variable {K : PySem.W.Frag} {σ : L2.St} {F F1 H : Hp} {ta tb te tx : TE} {t u : TT} {d e : PyData} {ds es : List PyData} {v : V}
theorem ev_neg {i : Int} (ha : EvF ta σ F (.int i)) : EvF (tUn (rU fun i => .int (-i)) ta) σ F (.int (-i)) := fun H s Q q => ha H s _ fun x F1 H1 f1 dx => ⟨i, dx.intE, q _ F1 H1 f1 (.int _)⟩
theorem ev_eq (ha : EvF ta σ F d) (hb : EvF tb σ F e) (pd : d.plain = true) (pe : e.plain = true) (dp : d.depth ≤ 60) : EvF (tOp rEqQ ta tb) σ F (.bool (PyData.eqv d e)) :=
  ev_op ha (fun _ k => hb.mono k) fun x y F1 H1 Q s dx dy q => ⟨d, e, dx.mono s, dy.mono s, pd, pe, dp, q _ F1 H1 (Fr.refl s) (.bl _)⟩
theorem ev_ne (ha : EvF ta σ F d) (hb : EvF tb σ F e) (pd : d.plain = true) (pe : e.plain = true) (dp : d.depth ≤ 60) : EvF (tOp rNeQ ta tb) σ F (.bool (!PyData.eqv d e)) :=
  ev_op ha (fun _ k => hb.mono k) fun x y F1 H1 Q s dx dy q => ⟨d, e, dx.mono s, dy.mono s, pd, pe, dp, q _ F1 H1 (Fr.refl s) (.bl _)⟩
theorem ev_in {neg : Bool} (ha : EvF ta σ F d) (hb : EvF tb σ F e) (he : e = .list ds ∨ e = .tuple ds) (pd : d.plain = true) (pe : PyData.plainAll ds = true) (dp : d.depth ≤ 60) :
    EvF (tOp (rInQ neg) ta tb) σ F (.bool (if neg then !(ds.any fun z => PyData.eqv z d) else ds.any fun z => PyData.eqv z d)) :=
  ev_op ha (fun _ k => hb.mono k) fun x y F1 H1 Q s dx dy q => ⟨d, ds, dx.mono s, he.imp (fun z => by rw [z] at dy; exact dy.mono s) (fun z => by rw [z] at dy; exact dy.mono s), pd, pe, dp, q _ F1 H1 (Fr.refl s) (.bl _)⟩
theorem ev_ixL {i : Int} (ha : EvF ta σ F (.list ds)) (hb : EvF tb σ F (.int i)) (hi : atI ds i = some d) : EvF (tOp (rIx K) ta tb) σ F d :=
  ev_op ha (fun _ k => hb.mono k) fun x y F1 H1 Q s dx dy q => by
    obtain ⟨a, xs, rfl, ex, dv⟩ := dx.lstE
    obtain ⟨j, h1, h2⟩ : ∃ j, ixN xs.length i = some j ∧ ds[j]? = some d := by
      unfold atI at hi
      rw [← dv.length] at hi
      cases z : ixN xs.length i with
      | none => rw [z] at hi; cases hi
      | some j => rw [z] at hi; exact ⟨j, rfl, hi⟩
    obtain ⟨v, hv, dv'⟩ := dv.get h2
    exact .inl ⟨a, xs, i, v, rfl, dy.intE, SqL.of (s _ _ ex), by unfold atI; rw [h1]; exact hv, q v F1 H1 (Fr.refl s) dv'⟩
theorem ev_ixT {i : Int} (ha : EvF ta σ F (.tuple ds)) (hb : EvF tb σ F (.int i)) (hi : atI ds i = some d) : EvF (tOp (rIx K) ta tb) σ F d :=
  ev_op ha (fun _ k => hb.mono k) fun x y F1 H1 Q s dx dy q => by
    obtain ⟨a, xs, rfl, ex, dv⟩ := dx.tupE
    obtain ⟨j, h1, h2⟩ : ∃ j, ixN xs.length i = some j ∧ ds[j]? = some d := by
      unfold atI at hi
      rw [← dv.length] at hi
      cases z : ixN xs.length i with
      | none => rw [z] at hi; cases hi
      | some j => rw [z] at hi; exact ⟨j, rfl, hi⟩
    obtain ⟨v, hv, dv'⟩ := dv.get h2
    exact .inr (.inl ⟨a, xs, i, v, rfl, dy.intE, SqT.of (s _ _ ex), by unfold atI; rw [h1]; exact hv, q v F1 H1 (Fr.refl s) dv'⟩)
theorem ei_none : EvI tNoPart σ F none := fun H s Q q => q F H (Fr.refl s)
theorem EvF.go (h : EvF te σ F d) {Q : VK} (s : Same F H) (q : ∀ v F2 H2, Fr M0 F H F2 H2 → Dq F2 v d → Q v H2) : te σ H Q := h H s Q q
theorem ei_some {i : Int} (h : EvF te σ F (.int i)) : EvI (tPart te) σ F (some i) := fun H s Q q => h H s _ fun v F2 H2 fr dv => ⟨i, dv.intE, q F2 H2 fr⟩
theorem EvI.mono {to : TO} {o : Option Int} (k : Same F F1) (h : EvI to σ F o) : EvI to σ F1 o := fun H s Q q => h H (fun a o e => s a o (k a o e)) Q fun F2 H2 fr =>
  q F1 H2 ⟨fun _ _ e => e, fun a o e => fr.hh _ _ (s _ _ e) fun z => z, fr.hh, fr.st, fun _ _ e _ => e⟩
def cutD (xs : List PyData) (lo hi : Option Int) : List PyData := (xs.drop (HT.sIx xs.length 0 lo)).take (HT.sIx xs.length xs.length hi - HT.sIx xs.length 0 lo)
theorem DqAll.cut {vs : List V} (h : DqAll F vs ds) (lo hi : Option Int) : DqAll F (cutV vs lo hi) (cutD ds lo hi) := by
  unfold cutV cutD
  rw [h.length]
  exact (h.drop _).take _
theorem eo_slL {tl th : TO} {lo hi : Option Int} (ha : EvF ta σ F (.list ds)) (hl : EvI tl σ F lo) (hh : EvI th σ F hi) : EvO (tSl (rSlL K) ta tl th) σ F (cutD ds lo hi) := fun H s Q q =>
  ha H s _ fun x F1 H1 f1 dx => (hl.mono f1.ff) H1 f1.fh _ fun F2 H2 f2 => (hh.mono (fun a o e => f2.ff _ _ (f1.ff _ _ e))) H2 f2.fh _ fun F3 H3 f3 => by
    obtain ⟨a, xs, rfl, ex, dv⟩ := dx.lstE
    have f := (f1.trans f2).trans f3
    exact ⟨a, xs, rfl, SqL.of (f3.fh _ _ (f3.ff _ _ (f2.ff _ _ ex))), fun p np => q p _ F3 _ (f.trans (Fr.own f3.fh np)) (f.st _ np) (f3.fh.free np) upd_same ((dv.mono fun a o e => f3.ff _ _ (f2.ff _ _ e)).cut lo hi)⟩
/-- a tuple's part, not the whole -/
theorem ev_slT {tl th : TO} {lo hi : Option Int} (ha : EvF ta σ F (.tuple ds)) (hl : EvI tl σ F lo) (hh : EvI th σ F hi) (hw : ¬ (HT.sIx ds.length 0 lo = 0 ∧ HT.sIx ds.length ds.length hi = ds.length)) : EvF (tSl (rSlT K) ta tl th) σ F (.tuple (cutD ds lo hi)) := fun H s Q q =>
  ha H s _ fun x F1 H1 f1 dx => (hl.mono f1.ff) H1 f1.fh _ fun F2 H2 f2 => (hh.mono (fun a o e => f2.ff _ _ (f1.ff _ _ e))) H2 f2.fh _ fun F3 H3 f3 => by
    obtain ⟨a, xs, rfl, ex, dv⟩ := dx.tupE
    have f := (f1.trans f2).trans f3
    refine ⟨a, xs, rfl, SqT.of (f3.fh _ _ (f3.ff _ _ (f2.ff _ _ ex))), by rw [dv.length]; exact hw, fun p np => ?_⟩
    have fn := Fr.new (M := M0) (o := .tup (cutV xs lo hi)) f3.fh np
    exact q _ _ _ (f.trans fn) (.tup upd_same (((dv.mono fun a o e => f3.ff _ _ (f2.ff _ _ e)).cut lo hi).mono fn.ff))
theorem ea_nil : EvA tNil σ F [] := fun H s Q q => q [] F H (Fr.refl s) .nil
theorem EvA.mono {ta : TA} (k : Same F F1) (h : EvA ta σ F ds) : EvA ta σ F1 ds := fun H s Q q => h H (fun a o e => s a o (k a o e)) Q fun v F2 H2 fr dv => by
  have fr' : Fr M0 F1 H (fun a => match F1 a with | some o => some o | none => F2 a) H2 := by
    refine ⟨fun a o e => ?_, fun a o e => ?_, fr.hh, fr.st, fun a o e1 e2 => ?_⟩
    · show (match F1 a with | some o => some o | none => F2 a) = some o
      rw [e]
    · have e : (match F1 a with | some o => some o | none => F2 a) = some o := e
      cases z : F1 a with
      | some u => rw [z] at e; exact fr.hh _ _ (s _ _ (z.trans e)) fun z => z
      | none => rw [z] at e; exact fr.fh _ _ e
    · show (match F1 a with | some o => some o | none => F2 a) = none
      rw [e1]
      refine fr.nw a o ?_ e2
      cases z : F a with
      | none => rfl
      | some u => rw [k _ _ z] at e1; cases e1
  refine q v _ H2 fr' (dv.mono fun a o e => ?_)
  show (match F1 a with | some o => some o | none => F2 a) = some o
  cases z : F1 a with
  | none => exact e
  | some u =>
    show some u = some o
    have h1 := fr.fh _ _ e
    rw [fr.hh _ _ (s _ _ z) fun z => z] at h1
    exact h1
theorem ea_cons {ta : TA} (he : EvF te σ F d) (ha : EvA ta σ F ds) : EvA (tCons te ta) σ F (d :: ds) := fun H s Q q =>
  he H s _ fun v F1 H1 f1 dv => (ha.mono f1.ff) H1 f1.fh _ fun vs F2 H2 f2 dvs => q _ F2 H2 (f1.trans f2) (.cons (dv.mono f2.ff) dvs)
theorem ev_tup {ta : TA} (h : EvA ta σ F ds) (hl : ds.length ≤ 10000) : EvF (tTup ta) σ F (.tuple ds) := fun H s Q q =>
  h H s _ fun vs F1 H1 f1 dvs => ⟨by rw [dvs.length]; exact Nat.le_trans hl (by decide), fun p np => by
    have fn := Fr.new (M := M0) (o := .tup vs) f1.fh np
    exact q _ _ _ (f1.trans fn) (.tup upd_same (dvs.mono fn.ff))⟩
theorem eo_lst {ta : TA} (h : EvA ta σ F ds) (hl : ds.length ≤ 10000) : EvO (tLst ta) σ F ds := fun H s Q q =>
  h H s _ fun vs F1 H1 f1 dvs => ⟨by rw [dvs.length]; exact Nat.le_trans hl (by decide), fun p np => q p vs F1 _ (f1.trans (Fr.own f1.fh np)) (f1.st _ np) (f1.fh.free np) upd_same dvs⟩
theorem eo_cat (ha : EvF ta σ F (.list ds)) (hb : EvF tb σ F (.list es)) (hl : ds.length + es.length ≤ 100000) : EvO (tOp rCat ta tb) σ F (ds ++ es) := fun H s Q q =>
  ha H s _ fun x F1 H1 f1 dx => (hb.mono f1.ff) H1 f1.fh _ fun y F2 H2 f2 dy => by
    obtain ⟨a, xs, rfl, ex, dv⟩ := dx.lstE
    obtain ⟨b, ys, rfl, ey, dw⟩ := dy.lstE
    have f := f1.trans f2
    exact ⟨a, b, xs, ys, rfl, rfl, f2.fh _ _ (f2.ff _ _ ex), f2.fh _ _ ey, by rw [dv.length, dw.length]; exact Nat.le_trans hl (by decide),
      fun p np => q p _ F2 _ (f.trans (Fr.own f2.fh np)) (f.st _ np) (f2.fh.free np) upd_same ((dv.mono f2.ff).append dw)⟩
theorem eo_rev (ha : EvF ta σ F (.list ds)) : EvO (tRevL K ta) σ F ds.reverse := fun H s Q q =>
  ha H s _ fun x F1 H1 f1 dx => by
    obtain ⟨a, xs, rfl, ex, dv⟩ := dx.lstE
    exact ⟨a, xs, rfl, SqL.of (f1.fh _ _ ex), fun p np => q p _ F1 _ (f1.trans (Fr.own f1.fh np)) (f1.st _ np) (f1.fh.free np) upd_same dv.reverse⟩
theorem eo_list (ha : EvF ta σ F (.list ds)) : EvO (tCB (rListOf K) (tCons ta tNil)) σ F ds := fun H s Q q =>
  ha H s _ fun x F1 H1 f1 dx => by
    obtain ⟨a, xs, rfl, ex, dv⟩ := dx.lstE
    exact ⟨a, xs, rfl, .inl (SqL.of (f1.fh _ _ ex)), fun p np => q p _ F1 _ (f1.trans (Fr.own f1.fh np)) (f1.st _ np) (f1.fh.free np) upd_same dv⟩
theorem ev_lenL (ha : EvF ta σ F (.list ds)) : EvF (tCB (rLenQ K) (tCons ta tNil)) σ F (.int (ds.length : Int)) := fun H s Q q =>
  ha H s _ fun x F1 H1 f1 dx => by
    obtain ⟨a, xs, rfl, ex, dv⟩ := dx.lstE
    exact ⟨a, xs, rfl, .inl (SqL.of (f1.fh _ _ ex)), by rw [dv.length]; exact q _ F1 H1 f1 (.int _)⟩
theorem ev_lenT (ha : EvF ta σ F (.tuple ds)) : EvF (tCB (rLenQ K) (tCons ta tNil)) σ F (.int (ds.length : Int)) := fun H s Q q =>
  ha H s _ fun x F1 H1 f1 dx => by
    obtain ⟨a, xs, rfl, ex, dv⟩ := dx.tupE
    exact ⟨a, xs, rfl, .inr (SqT.of (f1.fh _ _ ex)), by rw [dv.length]; exact q _ F1 H1 f1 (.int _)⟩
/-! tests -/
theorem et_test {b : Bool} (h : EvF te σ F (.bool b)) : EvT (tTest te) σ F b := fun H s Q q => h H s _ fun v F2 H2 fr dv => ⟨b, dv.blE, q F2 H2 fr⟩
theorem et_B {b : Bool} (h : EvF te σ F (.bool b)) : EvT (tB te) σ F b := fun H s Q q => h H s _ fun v F2 H2 fr dv => ⟨b, dv.blE, q F2 H2 fr⟩
theorem EvT.mono {b : Bool} (k : Same F F1) (h : EvT t σ F b) : EvT t σ F1 b := fun H s Q q => h H (fun a o e => s a o (k a o e)) Q fun F2 H2 fr =>
  q F1 H2 ⟨fun _ _ e => e, fun a o e => fr.hh _ _ (s _ _ e) fun z => z, fr.hh, fr.st, fun _ _ e _ => e⟩
theorem et_not {b : Bool} (h : EvT t σ F b) : EvT (tNot t) σ F (!b) := fun H s Q q => h H s _ fun F2 H2 fr => q F2 H2 fr
theorem et_and {a b : Bool} (h1 : EvT t σ F a) (h2 : a = true → EvT u σ F b) : EvT (tAnd t u) σ F (a && b) := fun H s Q q => h1 H s _ fun F1 H1 f1 => by
  cases a with
  | true => exact ((h2 rfl).mono f1.ff) H1 f1.fh _ fun F2 H2 f2 => q F2 H2 (f1.trans f2)
  | false => exact q F1 H1 f1
theorem et_or {a b : Bool} (h1 : EvT t σ F a) (h2 : a = false → EvT u σ F b) : EvT (tOr t u) σ F (a || b) := fun H s Q q => h1 H s _ fun F1 H1 f1 => by
  cases a with
  | true => exact q F1 H1 f1
  | false => exact ((h2 rfl).mono f1.ff) H1 f1.fh _ fun F2 H2 f2 => q F2 H2 (f1.trans f2)
theorem EvF.is {d' : PyData} (h : EvF te σ F d) (e : d = d') : EvF te σ F d' := e ▸ h
theorem EvO.is {ds' : List PyData} (h : EvO te σ F ds) (e : ds = ds') : EvO te σ F ds' := e ▸ h
theorem EvT.is {b b' : Bool} (h : EvT t σ F b) (e : b = b') : EvT t σ F b' := e ▸ h
/-! a comprehension over a list: which items, each what -/
def gathered (ds : List PyData) (f : PyData → Bool) (g : PyData → PyData) : List PyData := (ds.filter f).map g
theorem eo_lcL {tl : TE} {j : Nat} {vs : List Nat} (f : PyData → Bool) (g : PyData → PyData) (h : EvF tl σ F (.list ds)) (hz : ds.length ≤ 100000) (hw : ∀ x, wipe ((wipe σ vs).set j (some x)) vs = wipe σ vs)
    (ht : ∀ (d : PyData) (x : V) F1, d ∈ ds → Same F F1 → Dq F1 x d → EvT t ((wipe σ vs).set j (some x)) F1 (f d))
    (he : ∀ (d : PyData) (x : V) F1, d ∈ ds → Same F F1 → Dq F1 x d → f d = true → EvF te ((wipe σ vs).set j (some x)) F1 (g d)) :
    EvO (tLc (iList K tl) (gName j) t te vs) σ F (gathered ds f g) := fun H0 s Q q => h H0 s _ fun x F1 H1 f1 dx => by
  obtain ⟨a, xs, rfl, ex, dv⟩ := dx.lstE
  refine ⟨a, rfl, ⟨xs, SqL.of (f1.fh _ _ ex)⟩, fun Dl nD => ?_⟩
  refine lc_list (xs := xs) (fun i H' => ∃ F' vs', Fr (fun a => a = Dl) F1 (upd H1 Dl (.lst [])) F' H' ∧ H' Dl = some (.lst vs') ∧ DqAll F' vs' (gathered (ds.take i) f g)) ?_ ?_ ?_ ?_
  · exact ⟨F1, [], Fr.refl (fun a o e => by rw [upd_ne (ne_of_none (f1.fh _ _ e) nD)]; exact f1.fh _ _ e), upd_same, .nil⟩
  · rintro i H' _ ⟨F', vs', fr, _, _⟩
    exact SqL.of (fr.fh _ _ (fr.ff _ _ ex))
  · rintro i x H' hi ⟨F', vs', fr, hD, dvs⟩
    refine ⟨hw x, ?_⟩
    obtain ⟨d, hd, dxd⟩ := dv.getV hi
    have hmem : d ∈ ds := List.mem_of_getElem? hd
    have sF : Same F F' := fun a o e => fr.ff _ _ (f1.ff _ _ e)
    have dx' : Dq F' x d := dxd.mono fr.ff
    have nDF : F' Dl = none := fr.nw Dl _ (f1.fh.free nD) upd_same
    have hlt := (List.getElem?_eq_some_iff.mp hd).1
    have htk : ds.take (i + 1) = ds.take i ++ [d] := by rw [List.take_add_one, hd]; rfl
    refine ht d x F' hmem sF dx' H' fr.fh _ fun F2 H2 f2 => ?_
    have hD2 : H2 Dl = some (.lst vs') := f2.hh _ _ hD fun z => z
    have nD2 : F2 Dl = none := f2.nw _ _ nDF hD
    cases hf : f d with
    | true =>
      show te _ H2 _
      refine he d x F2 hmem (fun a o e => f2.ff _ _ (sF _ _ e)) (dx'.mono f2.ff) hf H2 f2.fh _ fun v F3 H3 f3 dv3 => ?_
      have hD3 : H3 Dl = some (.lst vs') := f3.hh _ _ hD2 fun z => z
      have nD3 : F3 Dl = none := f3.nw _ _ nD2 hD2
      have hl : vs'.length ≤ i := by
        rw [dvs.length]
        unfold gathered
        rw [List.length_map]
        exact Nat.le_trans (List.length_filter_le _ _) (List.length_take_le _ _)
      refine ⟨vs', hD3, Nat.lt_of_le_of_lt hl (Nat.lt_of_lt_of_le hlt (Nat.le_trans hz (by decide))), F3, vs' ++ [v], ?_, upd_same, ?_⟩
      · exact ((fr.trans f2.up).trans f3.up).trans (Fr.put f3.fh nD3 rfl)
      · have e1 : gathered (ds.take (i + 1)) f g = gathered (ds.take i) f g ++ [g d] := by
          unfold gathered
          rw [htk, List.filter_append, List.map_append, List.filter_cons, if_pos hf]
          rfl
        rw [e1]
        exact (dvs.mono fun a o e => f3.ff _ _ (f2.ff _ _ e)).append (.cons dv3 .nil)
    | false =>
      show ∃ F' vs', _
      refine ⟨F2, vs', fr.trans f2.up, hD2, ?_⟩
      have e1 : gathered (ds.take (i + 1)) f g = gathered (ds.take i) f g := by
        unfold gathered
        rw [htk, List.filter_append, List.map_append, List.filter_cons, if_neg (by rw [hf]; decide)]
        show _ ++ [] = _
        rw [List.append_nil]
      rw [e1]
      exact dvs.mono f2.ff
  · rintro H' ⟨F', vs', fr, hD, dvs⟩
    have e : ds.take xs.length = ds := List.take_of_length_le (by rw [dv.length]; exact Nat.le_refl _)
    rw [e] at dvs
    refine q Dl vs' F' H' (f1.trans ⟨fr.ff, fr.fh, fun a o e _ => ?_, fun a e => ?_, fun a o e1 e2 => ?_⟩) (f1.st _ nD) (fr.nw Dl _ (f1.fh.free nD) upd_same) hD dvs
    · exact fr.hh a o (by rw [upd_ne (ne_of_none e nD)]; exact e) (ne_of_none e nD)
    · have := fr.st a e
      by_cases z : a = Dl
      · subst z; exact nD
      · rw [upd_ne z] at this; exact this
    · exact fr.nw a o e1 (by rw [upd_ne (ne_of_none e2 nD)]; exact e2)
end

section
variable {M : Addr → Prop} {F H F2 H2 : Hp} {K : PySem.W.Frag}
/-- what was frozen on the way is left aside -/
theorem Fr.drop (a : Fr M F H F2 H2) : Fr M F H F H2 := ⟨fun _ _ e => e, fun x o e => a.fh _ _ (a.ff _ _ e), a.hh, a.st, fun _ _ e _ => e⟩
end
/-! ### slices -/
theorem sIx_neg1 (n d : Nat) (h : 0 < n) : HT.sIx n d (some (-1)) = n - 1 := by
  show (if (-1 : Int) < 0 then ((-1 : Int) + (n : Int)).toNat else min (-1 : Int).toNat n) = n - 1
  rw [if_pos (by decide)]
  omega
theorem take_min {α : Type} (xs : List α) (k : Nat) : xs.take (min k xs.length) = xs.take k := by
  by_cases h : k ≤ xs.length
  · rw [Nat.min_eq_left h]
  · rw [Nat.min_eq_right (by omega), List.take_length, List.take_of_length_le (by omega)]
theorem cutV_to (xs : List V) (k : Nat) : cutV xs none (some (k : Int)) = xs.take k := by
  unfold cutV
  rw [HT.sIx_none, HT.sIx_nat, List.drop_zero, Nat.sub_zero, take_min]
theorem cutV_from (xs : List V) (k : Nat) : cutV xs (some (k : Int)) none = xs.drop k := by
  unfold cutV
  rw [HT.sIx_none, HT.sIx_nat]
  by_cases h : k ≤ xs.length
  · rw [Nat.min_eq_left h, List.take_of_length_le (by rw [List.length_drop]; exact Nat.le_refl _)]
  · rw [Nat.min_eq_right (by omega), List.drop_length, List.drop_of_length_le (by omega), List.take_nil]
theorem cutD_to (xs : List PyData) (k : Nat) : cutD xs none (some (k : Int)) = xs.take k := by
  unfold cutD
  rw [HT.sIx_none, HT.sIx_nat, List.drop_zero, Nat.sub_zero, take_min]
theorem cutD_from (xs : List PyData) (k : Nat) : cutD xs (some (k : Int)) none = xs.drop k := by
  unfold cutD
  rw [HT.sIx_none, HT.sIx_nat]
  by_cases h : k ≤ xs.length
  · rw [Nat.min_eq_left h, List.take_of_length_le (by rw [List.length_drop]; exact Nat.le_refl _)]
  · rw [Nat.min_eq_right (by omega), List.drop_length, List.drop_of_length_le (by omega), List.take_nil]
/-- whatever the bounds, a slice of typed things is one -/
theorem cutD_map {α : Type} (t : α → PyData) (xs : List α) (lo hi : Option Int) : ∃ i k, cutD (xs.map t) lo hi = (((xs.drop i).take k).map t) := ⟨HT.sIx xs.length 0 lo, HT.sIx xs.length xs.length hi - HT.sIx xs.length 0 lo, by
  unfold cutD
  rw [List.length_map, List.map_take, List.map_drop]⟩
/-! ### equality of typed data -/
theorem eqvAll_map {α : Type} [DecidableEq α] (t : α → PyData) (ht : ∀ a b, PyData.eqv (t a) (t b) = decide (a = b)) : ∀ xs ys : List α, PyData.eqvAll (xs.map t) (ys.map t) = decide (xs = ys)
  | [], [] => by simp only [List.map_nil, PyData.eqvAll, decide_true]
  | [], _ :: _ => by simp [PyData.eqvAll]
  | _ :: _, [] => by simp [PyData.eqvAll]
  | x :: xs, y :: ys => by
    rw [List.map_cons, List.map_cons, PyData.eqvAll, ht, eqvAll_map t ht xs ys, ← Bool.decide_and]
    exact decide_eq_decide.mpr (by rw [List.cons.injEq])
theorem eqv_list {α : Type} [DecidableEq α] (t : α → PyData) (ht : ∀ a b, PyData.eqv (t a) (t b) = decide (a = b)) (xs ys : List α) : PyData.eqv (.list (xs.map t)) (.list (ys.map t)) = decide (xs = ys) := by
  simp only [PyData.eqv]
  exact eqvAll_map t ht xs ys
theorem eqv_str (a b : Str) : PyData.eqv (.str a) (.str b) = decide (a = b) := by
  simp only [PyData.eqv]
  by_cases h : a = b
  · subst h; simp
  · rw [decide_eq_false h]; exact beq_eq_false_iff_ne.mpr h
theorem perm_map_ex {α β : Type} (f : α → β) (g : β → α) (hg : ∀ a, g (f a) = a) {l : List β} {xs : List α} (h : l.Perm (xs.map f)) : ∃ l' : List α, l = l'.map f ∧ l'.Perm xs := by
  refine ⟨l.map g, ?_, ?_⟩
  · have : ∀ b ∈ l, f (g b) = b := fun b hb => by
      obtain ⟨a, _, rfl⟩ := List.mem_map.mp (h.mem_iff.mp hb)
      rw [hg]
    rw [List.map_map]
    conv => lhs; rw [← List.map_id l]
    exact List.map_congr_left fun b hb => (this b hb).symm
  · have h2 := h.map g
    rw [List.map_map] at h2
    have e : xs.map (g ∘ f) = xs := by
      conv => rhs; rw [← List.map_id xs]
      exact List.map_congr_left fun a _ => hg a
    rw [e] at h2
    exact h2

section
variable {F H H2 : Hp} {p : Addr}
theorem Fr.kept (s : Same F H) (n : F p = none) (kp : ∀ x o, H x = some o → x ≠ p → H2 x = some o) (st : ∀ x, H2 x = none → H x = none) : Fr (fun a => a = p) F H F H2 :=
  ⟨fun _ _ e => e, fun a o e => kp a o (s _ _ e) (fun z => by subst z; rw [n] at e; cases e), fun a o e n => kp a o e n, st, fun _ _ e _ => e⟩
end

/-! ### statements -/
section
variable {K : PySem.W.Frag} {σ : L2.St} {F H : Hp} {te : TE} {t : TT} {tu tw tz : TS} {d : PyData} {ds : List PyData} {v : V} {D : Ends} {i : Nat} {b : Bool}
/-- an assignment, its value by hand -/
theorem s_wp (h : te σ H fun v H1 => tz D (σ.set i (some v)) H1) : tSeq (tAsg te (gName i)) tz D σ H := h
theorem s_asg (h : EvF te σ F d) (s : Same F H) (k : ∀ v F1 H1, Fr M0 F H F1 H1 → Dq F1 v d → tz D (σ.set i (some v)) H1) : tSeq (tAsg te (gName i)) tz D σ H := h H s _ k
theorem s_asgO (h : EvO te σ F ds) (s : Same F H) (k : ∀ p vs F1 H1, Fr M0 F H F1 H1 → H p = none → F1 p = none → H1 p = some (.lst vs) → DqAll F1 vs ds → tz D (σ.set i (some (.ref p))) H1) : tSeq (tAsg te (gName i)) tz D σ H := h H s _ k
theorem s_if (h : EvT t σ F b) (s : Same F H) (k1 : b = true → ∀ F1 H1, Fr M0 F H F1 H1 → tu { D with nx := tz D } σ H1) (k2 : b = false → ∀ F1 H1, Fr M0 F H F1 H1 → tw { D with nx := tz D } σ H1) : tSeq (tIfS t tu tw) tz D σ H := h H s _ fun F1 H1 f1 => by
  cases b with
  | true => exact k1 rfl F1 H1 f1
  | false => exact k2 rfl F1 H1 f1
/-- an if without an else -/
theorem s_when (h : EvT t σ F b) (s : Same F H) (k1 : b = true → ∀ F1 H1, Fr M0 F H F1 H1 → tu { D with nx := tz D } σ H1) (k2 : b = false → ∀ F1 H1, Fr M0 F H F1 H1 → tz D σ H1) : tSeq (tIfS t tu tNext) tz D σ H := h H s _ fun F1 H1 f1 => by
  cases b with
  | true => exact k1 rfl F1 H1 f1
  | false => exact k2 rfl F1 H1 f1
theorem s_whenE (h : EvT t σ F b) (s : Same F H) (k1 : b = true → ∀ F1 H1, Fr M0 F H F1 H1 → tu D σ H1) (k2 : b = false → ∀ F1 H1, Fr M0 F H F1 H1 → D.nx σ H1) : tIfS t tu tNext D σ H := h H s _ fun F1 H1 f1 => by
  cases b with
  | true => exact k1 rfl F1 H1 f1
  | false => exact k2 rfl F1 H1 f1
theorem s_ret (h : EvF te σ F d) (s : Same F H) (k : ∀ v F1 H1, Fr M0 F H F1 H1 → Dq F1 v d → D.rt v H1) : tRet te D σ H := h H s _ k
theorem s_retO (h : EvO te σ F ds) (s : Same F H) (k : ∀ p vs F1 H1, Fr M0 F H F1 H1 → H p = none → F1 p = none → H1 p = some (.lst vs) → DqAll F1 vs ds → D.rt (.ref p) H1) : tRet te D σ H := h H s _ k
theorem s_drop (h : te σ H fun _ H1 => tz D σ H1) : tSeq (tDrop te) tz D σ H := h
end

/-! ### isinstance, is, loops -/
def tyName : PyData → String
  | .none => "NoneType"
  | .bool _ => "bool"
  | .int _ => "int"
  | .str _ => "str"
  | .list _ => "list"
  | .tuple _ => "tuple"
  | .dict _ => "dict"
theorem Dq.tyX {K : PySem.W.Frag} {H : Hp} {v : V} {d : PyData} (h : Dq H v d) : TyX K H v (.type (tyName d)) := by
  cases h with
  | non => exact .base .non
  | bl b => exact .base (.bl b)
  | int i => exact .base (.int i)
  | str x => exact .base (.str x)
  | lst e h => exact .base (.lst e)
  | tup e h => exact .base (.tup e)
  | dK e h => exact .base (.dK e)
  | dT e h => exact .base (.dT e)
section
variable {K : PySem.W.Frag} {σ : L2.St} {F H : Hp} {ta tb te tl : TE} {tA : TA} {t : TT} {tu tw tz tbd : TS} {d : PyData} {ds : List PyData} {v : V} {D : Ends} {i j : Nat} {b : Bool}
theorem ev_isi {T : String} (ha : EvF ta σ F d) (hk : kitB (tyName d) T = some b) : EvF (tCB (rIsi K) (tCons ta (tCons (tC (.ty T)) tNil))) σ F (.bool b) := fun H s Q q =>
  ha H s _ fun x F1 H1 f1 dx => ⟨x, .ty T, .type (tyName d), .type T, b, rfl, .ty T, (dx.mono f1.fh).tyX, kit_ty hk, q _ F1 H1 f1 (.bl b)⟩
theorem ev_isBl {a b : Bool} (ha : EvF ta σ F (.bool a)) (hb : EvF tb σ F (.bool b)) : EvF (tOp rIsB ta tb) σ F (.bool (decide (a = b))) :=
  ev_op ha (fun _ k => hb.mono k) fun x y F1 H1 Q s dx dy q => ⟨a, b, dx.blE, dy.blE, q _ F1 H1 (Fr.refl s) (.bl _)⟩
theorem ev_notBl {a b : Bool} (ha : EvF ta σ F (.bool a)) (hb : EvF tb σ F (.bool b)) : EvF (tOp rNotB ta tb) σ F (.bool (!decide (a = b))) :=
  ev_op ha (fun _ k => hb.mono k) fun x y F1 H1 Q s dx dy q => ⟨a, b, dx.blE, dy.blE, q _ F1 H1 (Fr.refl s) (.bl _)⟩
/-- for x in a list of data -/
theorem s_forL (h : EvF tl σ F (.list ds)) (s : Same F H)
    (k : ∀ a xs F1 H1, Fr M0 F H F1 H1 → F1 a = some (.lst xs) → DqAll F1 xs ds → ∃ Pv : Nat → L2.St → Hp → Prop, Pv 0 σ H1 ∧ (∀ i σ' H', Pv i σ' H' → Same F1 H') ∧
      (∀ i d x σ' H', ds[i]? = some d → Dq F1 x d → Pv i σ' H' → tbd { D with nx := Pv (i + 1), ct := Pv (i + 1), bk := tz D } (σ'.set j (some x)) H') ∧ (∀ σ' H', Pv ds.length σ' H' → tz D σ' H')) :
    tSeq (tFor (iList K tl) (gName j) tbd) tz D σ H := h H s _ fun x F1 H1 f1 dx => by
  obtain ⟨a, xs, rfl, ex, dv⟩ := dx.lstE
  obtain ⟨Pv, h0, hs, ht, he⟩ := k a xs F1 H1 f1 ex dv
  refine ⟨a, rfl, ⟨xs, SqL.of (f1.fh _ _ ex)⟩, for_list (xs := xs) (D := { D with nx := tz D }) Pv h0 (fun i σ' H' _ p => SqL.of (hs i σ' H' p _ _ ex)) (fun i x σ' H' hi p => ?_) (fun σ' H' p => ?_)⟩
  · obtain ⟨d, hd, dd⟩ := dv.getV hi
    exact ht i d x σ' H' hd dd p
  · rw [dv.length] at p
    exact he σ' H' p
/-- for k in range(n) -/
theorem s_forR {n : Int} (h : EvA tA σ F [.int n]) (hn : n < 2 ^ 62 ∧ -(2 ^ 62) ≤ n) (s : Same F H)
    (k : ∀ F1 H1, Fr M0 F H F1 H1 → ∃ Pv : Nat → L2.St → Hp → Prop, Pv 0 σ H1 ∧
      (∀ (i : Nat) σ' H', (i : Int) < n → Pv i σ' H' → tbd { D with nx := Pv (i + 1), ct := Pv (i + 1), bk := tz D } (σ'.set j (some (.int (i : Int)))) H') ∧ (∀ σ' H', Pv n.toNat σ' H' → tz D σ' H')) :
    tSeq (tFor (iRng1 tA) (gName j) tbd) tz D σ H := h H s _ fun vs F1 H1 f1 dv => by
  cases dv with
  | cons d1 t =>
    cases t
    cases d1.intE
    obtain ⟨Pv, h0, ht, he⟩ := k F1 H1 f1
    refine ⟨n, rfl, hn.2, hn.1, for_range (D := { D with nx := tz D }) Pv h0 (fun i σ' H' hi p => ?_) he⟩
    have e : (0 : Int) + (i : Int) = (i : Int) := Int.zero_add _
    show tbd _ (σ'.set j (some (.int ((0 : Int) + (i : Int))))) H'
    rw [e]
    exact ht i σ' H' (by omega) p
end

section
variable {M N : Addr → Prop} {F H H1 F2 H2 : Hp} {D : Addr} {o : HO}
/-- an object that was new, and was changed since -/
theorem Fr.unown (f : Fr M F (upd H1 D o) F2 H2) (n : H1 D = none) (h : ∀ a, M a → a = D ∨ N a) : Fr N F H1 F2 H2 := by
  refine ⟨f.ff, f.fh, fun a u e nn => ?_, fun a e => ?_, fun a u e1 e2 => ?_⟩
  · have ne := ne_of_none e n
    exact f.hh a u (by rw [upd_ne ne]; exact e) fun z => (h a z).elim ne nn
  · have := f.st a e
    by_cases z : a = D
    · rw [z]; exact n
    · rw [upd_ne z] at this; exact this
  · exact f.nw a u e1 (by rw [upd_ne (ne_of_none e2 n)]; exact e2)
end
end Ly

set_option Elab.async false
set_option linter.all false
set_option maxRecDepth 100000
set_option maxHeartbeats 400000
/-! what expressions evaluate to, told by any relation of values and data that stays as the frozen part grows -/
namespace Lr
open PySem PySem.Spec PyProof.Rows L2 Ly
theorem frWiden {F F1 H F2 H2 : Hp} (k : Same F F1) (s : Same F1 H) (fr : Fr M0 F H F2 H2) : ∃ F3, Fr M0 F1 H F3 H2 ∧ Same F2 F3 := by
  refine ⟨fun a => match F1 a with | some o => some o | none => F2 a, ⟨fun a o e => ?_, fun a o e => ?_, fr.hh, fr.st, fun a o e1 e2 => ?_⟩, fun a o e => ?_⟩
  · show (match F1 a with | some o => some o | none => F2 a) = some o
    rw [e]
  · have e : (match F1 a with | some o => some o | none => F2 a) = some o := e
    cases z : F1 a with
    | some u => rw [z] at e; exact fr.hh _ _ (s _ _ (z.trans e)) fun z => z
    | none => rw [z] at e; exact fr.fh _ _ e
  · show (match F1 a with | some o => some o | none => F2 a) = none
    rw [e1]
    refine fr.nw a o ?_ e2
    cases z : F a with
    | none => rfl
    | some u => rw [k _ _ z] at e1; cases e1
  · show (match F1 a with | some o => some o | none => F2 a) = some o
    cases z : F1 a with
    | none => exact e
    | some u =>
      show some u = some o
      have h1 := fr.fh _ _ e
      rw [fr.hh _ _ (s _ _ z) fun z => z] at h1
      exact h1
theorem Same.trans {F F1 F2 : Hp} (a : Same F F1) (b : Same F1 F2) : Same F F2 := fun x o e => b _ _ (a _ _ e)
section
variable {α : Type}
def Mon (R : Hp → V → α → Prop) : Prop := ∀ F F' v x, Same F F' → R F v x → R F' v x
def EvV (R : Hp → V → α → Prop) (te : TE) (σ : L2.St) (F : Hp) (x : α) : Prop := ∀ H, Same F H → ∀ Q : VK, (∀ v F2 H2, Fr M0 F H F2 H2 → R F2 v x → Q v H2) → te σ H Q
def EvVs (R : Hp → V → α → Prop) (ta : TA) (σ : L2.St) (F : Hp) (xs : List α) : Prop := ∀ H, Same F H → ∀ Q : List V → Hp → Prop, (∀ vs F2 H2, Fr M0 F H F2 H2 → Paired (R F2) vs xs → Q vs H2) → ta σ H Q
/-- a new list -/
def EvN (R : Hp → V → α → Prop) (te : TE) (σ : L2.St) (F : Hp) (xs : List α) : Prop := ∀ H, Same F H → ∀ Q : VK, (∀ p vs F2 H2, Fr M0 F H F2 H2 → H p = none → F2 p = none → H2 p = some (.lst vs) → Paired (R F2) vs xs → Q (.ref p) H2) → te σ H Q
/-- a list of such -/
def LR (R : Hp → V → α → Prop) : Hp → V → List α → Prop := fun F v xs => ∃ a vs, v = .ref a ∧ F a = some (.lst vs) ∧ Paired (R F) vs xs
variable {R : Hp → V → α → Prop} {K : PySem.W.Frag} {σ : L2.St} {F F1 H : Hp} {ta tb te : TE} {x : α} {xs ys : List α} {v : V} {tz : TS} {D : L2.Ends} {i : Nat}
theorem Mon.all (m : Mon R) (k : Same F F1) {vs : List V} (h : Paired (R F) vs xs) : Paired (R F1) vs xs := L2.Paired.mapP h fun v x r => m _ _ v x k r
theorem Mon.lr (m : Mon R) : Mon (LR R) := fun F F' v x k ⟨a, vs, e, ea, h⟩ => ⟨a, vs, e, k _ _ ea, m.all k h⟩
theorem EvV.mono (m : Mon R) (k : Same F F1) (h : EvV R te σ F x) : EvV R te σ F1 x := fun H s Q q => h H (Same.trans k s) Q fun v F2 H2 fr dv =>
  let ⟨F3, fr', k'⟩ := frWiden k s fr
  q v F3 H2 fr' (m _ _ _ _ k' dv)
theorem EvVs.mono {ta : TA} (m : Mon R) (k : Same F F1) (h : EvVs R ta σ F xs) : EvVs R ta σ F1 xs := fun H s Q q => h H (Same.trans k s) Q fun v F2 H2 fr dv =>
  let ⟨F3, fr', k'⟩ := frWiden k s fr
  q v F3 H2 fr' (m.all k' dv)
theorem vr_var (h : σ[i]? = some (some v)) (hv : R F v x) : EvV R (tVar i) σ F x := fun H s Q q => ⟨v, h, q v F H (Fr.refl s) hv⟩
theorem vs_nil : EvVs R tNil σ F [] := fun H s Q q => q [] F H (Fr.refl s) .nil
theorem vs_cons {ta : TA} (m : Mon R) (he : EvV R te σ F x) (ha : EvVs R ta σ F xs) : EvVs R (tCons te ta) σ F (x :: xs) := fun H s Q q =>
  he H s _ fun v F1 H1 f1 dv => (ha.mono m f1.ff) H1 f1.fh _ fun vs F2 H2 f2 dvs => q _ F2 H2 (f1.trans f2) (.cons (m _ _ _ _ f2.ff dv) dvs)
theorem vn_lst {ta : TA} (h : EvVs R ta σ F xs) (hl : xs.length ≤ 10000) : EvN R (tLst ta) σ F xs := fun H s Q q =>
  h H s _ fun vs F1 H1 f1 dvs => ⟨by rw [dvs.length]; exact Nat.le_trans hl (by decide), fun p np => q p vs F1 _ (f1.trans (Fr.own f1.fh np)) (f1.st _ np) (f1.fh.free np) upd_same dvs⟩
theorem EvN.f (m : Mon R) (h : EvN R te σ F xs) : EvV (LR R) te σ F xs := fun H s Q q => h H s Q fun p vs F2 H2 fr np nf hp dv =>
  q _ (upd F2 p (.lst vs)) H2 (fr.take np hp) ⟨p, vs, rfl, upd_same, m.all (fun a o e => by rw [upd_ne (ne_of_none e nf)]; exact e) dv⟩
theorem pairedApp {A B : Type} {P : A → B → Prop} : ∀ {a c : List A} {b d : List B}, Paired P a b → Paired P c d → Paired P (a ++ c) (b ++ d)
  | _, _, _, _, .nil, h => h
  | _, _, _, _, .cons h t, h2 => .cons h (pairedApp t h2)
theorem pairedGet {A B : Type} {P : A → B → Prop} : ∀ {a : List A} {b : List B} {i : Nat} {y : B}, Paired P a b → b[i]? = some y → ∃ x, a[i]? = some x ∧ P x y
  | _, _, _, _, .nil, e => by simp at e
  | _, _, 0, _, .cons h t, e => by
    cases (show some _ = some _ from e)
    exact ⟨_, rfl, h⟩
  | _, _, i + 1, _, .cons h t, e => pairedGet (i := i) t e
theorem pairedGetL {A B : Type} {P : A → B → Prop} : ∀ {a : List A} {b : List B} {i : Nat} {x : A}, Paired P a b → a[i]? = some x → ∃ y, b[i]? = some y ∧ P x y
  | _, _, _, _, .nil, e => by simp at e
  | _, _, 0, _, .cons h t, e => by
    cases (show some _ = some _ from e)
    exact ⟨_, rfl, h⟩
  | _, _, i + 1, _, .cons h t, e => pairedGetL (i := i) t e
theorem vn_cat (m : Mon R) (ha : EvV (LR R) ta σ F xs) (hb : EvV (LR R) tb σ F ys) (hl : xs.length + ys.length ≤ 100000) : EvN R (tOp rCat ta tb) σ F (xs ++ ys) := fun H s Q q =>
  ha H s _ fun v F1 H1 f1 ⟨a, vs, ev, ea, dv⟩ => (hb.mono m.lr f1.ff) H1 f1.fh _ fun w F2 H2 f2 ⟨b, ws, ew, eb, dw⟩ => by
    have f := f1.trans f2
    exact ⟨a, b, vs, ws, ev, ew, f2.fh _ _ (f2.ff _ _ ea), f2.fh _ _ eb, by rw [dv.length, dw.length]; exact Nat.le_trans hl (by decide),
      fun p np => q p _ F2 _ (f.trans (Fr.own f2.fh np)) (f.st _ np) (f2.fh.free np) upd_same (pairedApp (m.all f2.ff dv) dw)⟩
theorem vr_ix (ha : EvV (LR R) ta σ F xs) (hx : xs[i]? = some x) : EvV R (tOp (rIx K) ta (tC (.int (i : Int)))) σ F x := fun H s Q q =>
  ha H s _ fun v F1 H1 f1 ⟨a, vs, ev, ea, dv⟩ => by
    obtain ⟨w, hw, dw⟩ := pairedGet dv hx
    have hlt := (List.getElem?_eq_some_iff.mp hw).1
    refine .inl ⟨a, vs, (i : Int), w, ev, rfl, SqL.of (f1.fh _ _ ea), ?_, q w F1 H1 f1 dw⟩
    unfold atI ixN
    rw [if_pos (Int.natCast_nonneg i), if_pos (by omega), Int.toNat_natCast]
    exact hw
theorem v_asg (h : EvV R te σ F x) (s : Same F H) (k : ∀ v F1 H1, Fr M0 F H F1 H1 → R F1 v x → tz D (σ.set i (some v)) H1) : tSeq (tAsg te (gName i)) tz D σ H := h H s _ k
theorem v_ret (h : EvV R te σ F x) (s : Same F H) (k : ∀ v F1 H1, Fr M0 F H F1 H1 → R F1 v x → D.rt v H1) : tRet te D σ H := h H s _ k
end
/-! ### data, also of the written part -/
section
variable {K : PySem.W.Frag} {F F1 H H' : Hp}
theorem sqLMono (k : Same F F1) {a : Addr} {xs : List V} (h : SqL K F a xs) : SqL K F1 a xs := h.imp (fun h => h.imp (k _ _) fun ⟨o, e⟩ => ⟨o, k _ _ e⟩) id
theorem sqTMono (k : Same F F1) {a : Addr} {xs : List V} (h : SqT K F a xs) : SqT K F1 a xs := h.imp (fun h => h.imp (k _ _) fun ⟨o, e⟩ => ⟨o, k _ _ e⟩) id
mutual
theorem dpMono (k : Same F F1) : ∀ {v : V} {d : PyData}, Dp K F v d → Dp K F1 v d
  | _, _, .non => .non
  | _, _, .bl b => .bl b
  | _, _, .int i => .int i
  | _, _, .str x => .str x
  | _, _, .lst e h => .lst (sqLMono k e) (dpsMono k h)
  | _, _, .tup e h => .tup (sqTMono k e) (dpsMono k h)
theorem dpsMono (k : Same F F1) : ∀ {vs : List V} {ds : List PyData}, DpAll K F vs ds → DpAll K F1 vs ds
  | _, _, .nil => .nil
  | _, _, .cons h t => .cons (dpMono k h) (dpsMono k t)
end
theorem dpsOf : ∀ {vs : List V} {ds : List PyData}, Paired (fun v d => Dp K F v d) vs ds → DpAll K F vs ds
  | _, _, .nil => .nil
  | _, _, .cons h t => .cons h (dpsOf t)
theorem dpsTo : ∀ {vs : List V} {ds : List PyData}, DpAll K F vs ds → Paired (fun v d => Dp K F v d) vs ds
  | _, _, .nil => .nil
  | _, _, .cons h t => .cons h (dpsTo t)
/-- the relation of such data -/
def RP (K : PySem.W.Frag) : Hp → V → PyData → Prop := fun F v d => Dp K F v d
theorem RP.mon : Mon (RP K) := fun F F' v d k h => dpMono k h
end
section
variable {K : PySem.W.Frag} {σ : L2.St} {F F1 H : Hp} {ta tb te : TE} {d e : PyData} {ds es : List PyData} {v : V}
theorem vp_of (h : EvF te σ F d) (p : d.plain = true) : EvV (RP K) te σ F d := fun H s Q q => h H s Q fun v F2 H2 fr dv => q v F2 H2 fr (dv.dp p)
theorem vp_c (hv : ∀ F, Dp K F v d) : EvV (RP K) (tC v) σ F d := fun H s Q q => q v F H (Fr.refl s) (hv _)
theorem vp_lst (h : EvV (LR (RP K)) te σ F ds) : EvV (RP K) te σ F (.list ds) := fun H s Q q => h H s Q fun v F2 H2 fr ⟨a, vs, ev, ea, dv⟩ => q v F2 H2 fr (by rw [ev]; exact .lst (SqL.of ea) (dpsOf dv))
theorem vp_tup {ta : TA} (h : EvVs (RP K) ta σ F ds) (hl : ds.length ≤ 10000) : EvV (RP K) (tTup ta) σ F (.tuple ds) := fun H s Q q =>
  h H s _ fun vs F1 H1 f1 dvs => ⟨by rw [dvs.length]; exact Nat.le_trans hl (by decide), fun p np => by
    have fn := Fr.new (M := M0) (o := .tup vs) f1.fh np
    exact q _ _ _ (f1.trans fn) (.tup (SqT.of upd_same) (dpsMono fn.ff (dpsOf dvs)))⟩
end
/-- == and != of such data -/
def rEqP (K : PySem.W.Frag) : R2 := fun x y H Q => ∃ d e, Dp K H x d ∧ Dp K H y e ∧ d.plain = true ∧ e.plain = true ∧ d.depth ≤ 60 ∧ Q (.bl (PyData.eqv d e)) H
def rNeP (K : PySem.W.Frag) : R2 := fun x y H Q => ∃ d e, Dp K H x d ∧ Dp K H y e ∧ d.plain = true ∧ e.plain = true ∧ d.depth ≤ 60 ∧ Q (.bl (!PyData.eqv d e)) H
theorem op_eqP {X : Cx} (K : PySem.W.Frag) (hK : X.K = K) (hu : X.A.units + 64 < cLine) : OpR X (compareOp .Eq) (rEqP K) := by
  subst hK
  intro pins s σ H x y v u Q I rx ry h
  obtain ⟨d, e, hd, he, sd, se, dp, q⟩ := h
  obtain ⟨as, r1⟩ := Dp.reads I d x v hd rx
  obtain ⟨bs, r2⟩ := Dp.reads I e y u he ry
  exact SeqAt.eq_plain r1 r2 sd se (Nat.lt_of_le_of_lt (Nat.add_le_add_left (Nat.le_trans (Nat.min_le_left _ _) (Nat.le_trans dp (by decide))) _) hu) ⟨.bl _, H, I, rfl, q⟩
theorem op_neP {X : Cx} (K : PySem.W.Frag) (hK : X.K = K) (hu : X.A.units + 64 < cLine) : OpR X (compareOp .NotEq) (rNeP K) := by
  subst hK
  intro pins s σ H x y v u Q I rx ry h
  obtain ⟨d, e, hd, he, sd, se, dp, q⟩ := h
  obtain ⟨as, r1⟩ := Dp.reads I d x v hd rx
  obtain ⟨bs, r2⟩ := Dp.reads I e y u he ry
  exact SeqAt.ne_plain r1 r2 sd se (Nat.lt_of_le_of_lt (Nat.add_le_add_left (Nat.le_trans (Nat.min_le_left _ _) (Nat.le_trans dp (by decide))) _) hu) ⟨.bl _, H, I, rfl, q⟩
section
variable {K : PySem.W.Frag} {σ : L2.St} {F F1 H : Hp} {ta tb te : TE} {d e : PyData}
theorem vp_ne (ha : EvV (RP K) ta σ F d) (hb : EvV (RP K) tb σ F e) (pd : d.plain = true) (pe : e.plain = true) (dp : d.depth ≤ 60) : EvF (tOp (rNeP K) ta tb) σ F (.bool (!PyData.eqv d e)) := fun H s Q q =>
  ha H s _ fun x F1 H1 f1 dx => (hb.mono RP.mon f1.ff) H1 f1.fh _ fun y F2 H2 f2 dy => ⟨d, e, dpMono (Same.trans f2.ff f2.fh) dx, dpMono f2.fh dy, pd, pe, dp, q _ F2 H2 (f1.trans f2) (.bl _)⟩
theorem vp_eq (ha : EvV (RP K) ta σ F d) (hb : EvV (RP K) tb σ F e) (pd : d.plain = true) (pe : e.plain = true) (dp : d.depth ≤ 60) : EvF (tOp (rEqP K) ta tb) σ F (.bool (PyData.eqv d e)) := fun H s Q q =>
  ha H s _ fun x F1 H1 f1 dx => (hb.mono RP.mon f1.ff) H1 f1.fh _ fun y F2 H2 f2 dy => ⟨d, e, dpMono (Same.trans f2.ff f2.fh) dx, dpMono f2.fh dy, pd, pe, dp, q _ F2 H2 (f1.trans f2) (.bl _)⟩
end
end Lr

set_option Elab.async false
set_option linter.all false
set_option maxRecDepth 100000
set_option maxHeartbeats 2000000
/-! own exception classes over ValueError, IndexError, KeyError: instances as values -/
namespace Lx
open PySem PySem.Spec PyProof.Rows L2 Ly PySem.W
open Builtin.ObjectAttr (storeInDict)
/-- what the classes behind C hold -/
structure Tops (NB : String) (bm : List Value) : Prop where
  base : bm.contains (.type NB) = true
  att : bm.contains (.type "AttributeError") = false
  nme : bm.contains (.type "NameError") = false
section
variable {M : Model} {A : Around} {E : Value → Shared → Prop} {h : Heap} {g : Array GenState} {d : Drawn} {t : Nat} {os : OsState}
variable {nm q : Str} {C N : Addr} {bs bm bmN : List Value} {hdct : Bool} {sn : List Str} {sub : List Value} {ab : Bool} {col : Option Bool} {dd : Option Addr} {k0 k1 k2 k3 k5 : Option Value} {NB newId inN : String} {rest : List Value} {kw : List (Str × Value)}
theorem x_check (F : ExcBaseFacts NB newId inN bmN) (T : Tops NB bm) {Q : Unit → Shared → Prop} (hC : h.get? C = some (excClassObj nm q C N bs bm hdct sn sub ab col dd k0 k1 k2 k3 k5 newId)) (hq : Q () ⟨h, g, d, t, os⟩) :
    wpAny M A (checkBuiltinCall newId ⟨.ref C :: rest, kw⟩) Q E ⟨h, g, d, t, os⟩ := by
  have hs := F.noStar
  have hb : (Value.ref C :: bm).contains (.type NB) = true := by rw [List.contains_cons, T.base, Bool.or_true]
  simp only [checkBuiltinCall, F.newKind, F.newRow, F.newSplit]
  repeat (first | refine wpAny_staticBase_exc hC ?_ | refine wpAny_madeBy_exc hC ?_ | refine wpAny_loadPart_at hC ?_ | (refine wpAny_isSubtype_exc hC ?_; rw [hb]) | simp only [bne_self_eq_false, Bool.false_eq_true, if_false] | wp_step)
  exact hq
end
section
variable {prog : Program} {w : World} {A : Around} {E : Value → Shared → Prop} {R : Result → Shared → Prop} {h : Heap} {g : Array GenState} {d : Drawn} {t : Nat} {os : OsState}
variable {nm q : Str} {C N : Addr} {bs bm bmN : List Value} {hdct : Bool} {sn : List Str} {sub : List Value} {ab : Bool} {col : Option Bool} {dd : Option Addr} {k0 k1 k2 k3 k5 : Option Value} {NB newId inN : String} {rest : List Value} {kw : List (Str × Value)}
abbrev xTup (us : List Value) : Obj := { cls := .type "tuple", data := .seq us.toArray }
abbrev xObj (C : Addr) (dv : Option Addr) (a : Addr) : Obj := { cls := .ref C, dict := dv, data := .fields #[.ref a, .none, .none, .none, .bool false, .none] }
/-- the heap behind BaseException.__new__ -/
abbrev xHeap (h : Heap) (C : Addr) (us : List Value) : Heap := (h.push (xTup us)).push (xObj C none h.objs.size)
theorem x_new (F : ExcBaseFacts NB newId inN bmN) (T : Tops NB bm) (hC : h.get? C = some (excClassObj nm q C N bs bm hdct sn sub ab col dd k0 k1 k2 k3 k5 newId)) (hz : rest.length ≤ sizeLine)
    (hq : R (.ok (.ret (.ref (h.objs.size + 1)))) ⟨xHeap h C rest, g, d, t, os⟩) : codeAny (model prog w) A (.builtin newId ⟨.ref C :: rest, kw⟩) R ⟨h, g, d, t, os⟩ := by
  have he := F.ends
  have hb : (Value.ref C :: bm).contains (.type NB) = true := by rw [List.contains_cons, T.base, Bool.or_true]
  have ha : (Value.ref C :: bm).contains (.type "AttributeError") = false := by rw [List.contains_cons, T.att]; rfl
  have hn : (Value.ref C :: bm).contains (.type "NameError") = false := by rw [List.contains_cons, T.nme]; rfl
  refine codeAny_builtinAt F.entry ?_
  unfold Builtin.«BaseException.__new__»
  refine PySem.wpAt_bind ?_
  show PySem.wpAt _ _ _ (stack >>= _) _ _ _
  refine PySem.wpAt_bind (PySem.wpAt_stack fun p below => PySem.wpAt_of_wpAny ?_)
  wp_walk
  refine PySem.wpAt_of_wpAny ?_
  rw [F.owner]
  repeat (first | with_reducible refine wpAny_loadPart_at hC ?_ | with_reducible refine wpAny_madeHere_exc F.canon hC ?_ | (with_reducible refine wpAny_isSubtype_exc hC ?_; first | rw [hb] | rw [ha] | rw [hn]) | wp_step)
  show R _ _
  rw [Heap.size_push]
  exact hq
theorem x_type (F : ExcBaseFacts NB newId inN bmN) (T : Tops NB bm) {init : Value} {Q : Fin → Shared → Prop} (hC : h.get? C = some (excClassObj nm q C N bs bm hdct sn sub ab col dd k0 k1 k2 k3 k5 newId))
    (hi : Looks (model prog w) h (typeLookup (.ref C) "__init__") (some init)) (hb : ∀ self, Looks (model prog w) h (bindSpecial init self) (init, [self])) (hz : rest.length ≤ sizeLine)
    (hq : codeAny (model prog w) A (.call init ⟨.ref (h.objs.size + 1) :: rest, kw⟩) (fun r s' => match r with | .ok (.ret v) => v = .none ∧ Q (.done (.ret (.ref (h.objs.size + 1)))) s' | .ok _ => False | .error e => E e s') ⟨xHeap h C rest, g, d, t, os⟩) :
    wpAny (model prog w) A (Builtin.«type.__call__» ⟨.ref C :: rest, kw⟩) Q E ⟨h, g, d, t, os⟩ := by
  have kp : ∀ b o, h.get? b = some o → (xHeap h C rest).get? b = some o := fun b o e => Heap.get?_push_of_some _ (Heap.get?_push_of_some _ e)
  have gx : (xHeap h C rest).get? (h.objs.size + 1) = some (xObj C none h.objs.size) := by heap_get
  have cc : (Value.ref C :: bm).contains (.ref C) = true := by simp
  repeat (first | with_reducible refine wpAny_madeBy_exc hC ?_ | with_reducible refine wpAny_loadPart_at hC ?_ | wp_step)
  refine codeAny_call_builtin_code (Code.quiet_builtin _ F.quiet) (x_check F T hC ?_)
  refine x_new F T hC hz ?_
  show wpAny _ _ _ _ _ _
  unfold isInstance
  repeat (first | with_reducible refine wpAny_loadPart_at gx ?_ | (with_reducible refine wpAny_isSubtype_exc (kp _ _ hC) ?_; rw [cc]) | wp_step)
  show wpAny _ _ (typeLookup (.ref C) _) _ _ _
  refine (hi.keeps kp).at ?_
  refine wpAny_holding (wpAny_bind (((hb (.ref (h.objs.size + 1))).keeps kp).at ?_))
  refine wpAny_bind (wpAny_call (codeAny_mono hq fun r s' z => ?_))
  rcases r with e | (v | _ | _ | _) <;> first | exact z | exact z.elim | skip
  obtain ⟨rfl, z⟩ := z
  first | exact wpAny_pure (wpAny_pure z) | (wp_walk; exact z)
theorem x_call (F : ExcBaseFacts NB newId inN bmN) (T : Tops NB bm) {init : Value} (hC : h.get? C = some (excClassObj nm q C N bs bm hdct sn sub ab col dd k0 k1 k2 k3 k5 newId))
    (hi : Looks (model prog w) h (typeLookup (.ref C) "__init__") (some init)) (hb : ∀ self, Looks (model prog w) h (bindSpecial init self) (init, [self])) (hz : rest.length ≤ sizeLine)
    (hq : codeAny (model prog w) (A.under (.builtin "type.__call__" ⟨.ref C :: rest, kw⟩)) (.call init ⟨.ref (h.objs.size + 1) :: rest, kw⟩) (InitBack (h.objs.size + 1) R) ⟨xHeap h C rest, g, d, t, os⟩) :
    codeAny (model prog w) A (.call (.ref C) ⟨rest, kw⟩) R ⟨h, g, d, t, os⟩ := by
  have f1 := tc_lookup
  have f2 := tc_bind (.ref C)
  have ty : (⟨h, g, d, t, os⟩ : Shared).TypeIs (.ref C) "type" := ⟨_, hC, rfl⟩
  have lt : Looks (model prog w) h (isInstance (.ref C) (.type "type")) true := ((Looks.ld (part := none) hC).andThen .now).andThen (Looks.of_pure tc_sub)
  refine codeAny_of_tree ?_
  show wpAny _ _ (callAny (.ref C) _) _ _ _
  repeat (any_goals (first | assumption | with_reducible refine wpAny_loadPart_at hC ?_ | wp_step))
  refine ⟨rfl, ?_⟩
  refine codeAny_call_builtin_at (Code.quiet_builtin _ (by decide +kernel)) entry_typeCall (check_slot tc_kind tc_split lt (tc_args _ _ _) (x_type F T hC hi hb hz ?_))
  refine codeAny_mono hq fun r s' z => ?_
  rcases r with e | (v | _ | _ | _) <;> exact z
end
/-! ### X.__init__ of the built-in classes -/
structure InitF (B initId : String) : Prop where
  slot : Slot B "__init__" initId
  entry : entryFor table initId = some Builtin.«BaseException.__init__»
  split : splitId initId = some (B, "__init__")
  kind : builtinKind initId = some .slot
  row : Manifest.signature? initId = some ⟨.positional, "*", B, .self, [⟨"args", .varPos, false⟩]⟩
  star : (B != "*") = true
theorem InitF.of {B n i : String} (F : ExcCallFacts B n i) : InitF B i := ⟨F.init, F.initEntry, F.initSplit, F.initKind, F.initRow, F.noStar⟩
theorem init_KeyError : InitF "KeyError" "KeyError.__init__" where
  slot := .of (owner := "KeyError") (n := "__init__") (by rw [typeLookup_type, builtinLookup_eq_fast]; kernel_rfl) (by decide +kernel) (by decide +kernel) (by decide +kernel)
    (by first | exact .inl (by decide +kernel) | exact .inr (by decide +kernel)) (by rw [isSubtype_type]; kernel_rfl)
  entry := entryFor_alias (id' := "BaseException.__init__") (by rw [fastTable_eq_tree]; kernel_rfl) (by first | rfl | decide +kernel) (by decide +kernel) (by rw [fastTable_eq_tree]; kernel_rfl)
  split := by kernel_rfl
  kind := by kernel_rfl
  row := by kernel_rfl
  star := by decide
theorem store_KeyError : StoreFacts "KeyError" [.type "KeyError", .type "LookupError", .type "Exception", .type "BaseException", .type "object"] "object.__setattr__" "object" where
  mro := by kernel_rfl
  slot := .of (owner := "object") (n := "__setattr__") (by rw [typeLookup_type, builtinLookup_eq_fast]; kernel_rfl) (by decide +kernel) (by decide +kernel) (by decide +kernel)
    (by first | exact .inl (by decide +kernel) | exact .inr (by decide +kernel)) (by rw [isSubtype_type]; kernel_rfl)
  entry := F.store_IndexError.entry
  kind := by decide +kernel
  split := by decide +kernel
  hasOwner := by decide +kernel
  args := F.store_IndexError.args
  passes := fun self => by kernel_rfl
section
variable {prog : Program} {w : World} {A : Around} {R : Result → Shared → Prop} {h : Heap} {g : Array GenState} {d : Drawn} {t : Nat} {os : OsState}
variable {nm q : Str} {C N : Addr} {bs bm : List Value} {hdct : Bool} {sn : List Str} {sub : List Value} {ab : Bool} {col : Option Bool} {dd : Option Addr} {k0 k1 k2 k3 k5 : Option Value} {newId : String}
theorem x_base {B initId : String} {e t0 : Addr} {rest : List Value} (I : InitF B initId) (hC : h.get? C = some (excClassObj nm q C N bs bm hdct sn sub ab col dd k0 k1 k2 k3 k5 newId)) (hs : bm.contains (.type B) = true) (he : h.get? e = some (xObj C none t0)) (hz : rest.length ≤ sizeLine)
    (hq : ∀ h' t1, (∀ b o, b ≠ e → h.get? b = some o → h'.get? b = some o) → h'.get? e = some (xObj C none t1) → R (.ok (.ret .none)) ⟨h', g, d, t, os⟩) :
    codeAny (model prog w) A (.call (.builtin initId) ⟨.ref e :: rest, []⟩) R ⟨h, g, d, t, os⟩ := by
  have cb : (Value.ref C :: bm).contains (.type B) = true := by rw [List.contains_cons, hs, Bool.or_true]
  have ns := I.star
  refine codeAny_call_builtin I.slot.plain I.entry ?_
  simp only [checkBuiltinCall, I.kind, I.split, I.row]
  repeat (first | with_reducible refine wpAny_loadPart_at he ?_ | with_reducible refine wpAny_loadPart_at hC ?_ | (with_reducible refine wpAny_isSubtype_exc hC ?_; rw [cb]) | wp_step)
  refine wpAny_onRaise ?_
  rw [show ∀ (a b : String) (n : Nat), Bind.check ⟨.positional, "*", B, .self, [⟨"args", .varPos, false⟩]⟩ a b n (List.map (fun x => x.fst) ({ pos := Value.ref e :: rest } : Args).kw) = pure () from fun a b n => check_star_args _ _ _ _ _ _]
  refine wpAny_pure ?_
  wp_walk
  refine hq _ h.objs.size (fun b o hb ho => ?_) ?_
  · rw [Heap.get?_update_other _ _ (Ne.symm hb)]
    exact Heap.get?_push_of_some _ ho
  · rw [Heap.get?_update_self _ (Heap.get?_push_of_some _ he) rfl]
    rfl
end
/-! ### what the written part says of such a class -/
structure Bs (bmB : List Value) (newId B initId : String) : Prop where
  has : bmB.contains (.type B) = true
  nw : ∃ NB inN bmN, ExcBaseFacts NB newId inN bmN ∧ Tops NB bmB
  ini : InitF B initId
  st : ∃ Bx, StoreFacts Bx bmB "object.__setattr__" "object"
def bmV : List Value := [.type "ValueError", .type "Exception", .type "BaseException", .type "object"]
def bmI : List Value := [.type "IndexError", .type "LookupError", .type "Exception", .type "BaseException", .type "object"]
def bmK : List Value := [.type "KeyError", .type "LookupError", .type "Exception", .type "BaseException", .type "object"]
theorem bsV : Bs bmV "ValueError.__new__" "ValueError" "ValueError.__init__" := ⟨by decide +kernel, ⟨_, _, _, F.excBase_ValueError, by decide +kernel, by decide +kernel, by decide +kernel⟩, .of F.excBase_ValueError.toExcCallFacts, _, F.store_ValueError⟩
theorem bsI : Bs bmI "IndexError.__new__" "IndexError" "IndexError.__init__" := ⟨by decide +kernel, ⟨_, _, _, F.excBase_IndexError, by decide +kernel, by decide +kernel, by decide +kernel⟩, .of F.excBase_IndexError.toExcCallFacts, _, F.store_IndexError⟩
theorem bsK : Bs bmK "LookupError.__new__" "KeyError" "KeyError.__init__" := ⟨by decide +kernel, ⟨_, _, _, F.excBase_LookupError, by decide +kernel, by decide +kernel, by decide +kernel⟩, init_KeyError, _, store_KeyError⟩
structure XC (K : Frag) (C : Addr) (B initId : String) : Prop where
  made : ∃ bmB newId, Bs bmB newId B initId ∧ excInitIn K C bmB newId = true ∧ excOver K C bmB = true
  kp : keepIn K (.ref C) = true
  hd : hasDictIn K C = true
  sa : findIn K (.ref C) "__setattr__" = some (some (.builtin "object.__setattr__"))
  sb : subIn K (.ref C) (.type B) = some true
  ex : subIn K (.ref C) (.type "BaseException") = some true
  ga : findIn K (.ref C) "__getattribute__" = some (some (.builtin "BaseException.__getattribute__"))
  gg : findIn K (.ref C) "__getattr__" = some none
  ca : findIn K (.ref C) "__class__" = some (some (.builtin "object.__class__"))
  cn : specialIn K (.builtin "object.__class__") "__get__" = some (some (.builtin "getset_descriptor.__get__"))
  ct : takesIn K (.builtin "object.__class__") = some true
  mo : mroIn K C (.type "object") = some true
  ty : typeIn K (.ref C) = some (.type "type")
def xcB (K : Frag) (C : Addr) (bmB : List Value) (newId B : String) : Bool := excInitIn K C bmB newId && (excOver K C bmB && (keepIn K (.ref C) && (hasDictIn K C && (decide (findIn K (.ref C) "__setattr__" = some (some (.builtin "object.__setattr__"))) &&
  (decide (subIn K (.ref C) (.type B) = some true) && (decide (subIn K (.ref C) (.type "BaseException") = some true) && (decide (findIn K (.ref C) "__getattribute__" = some (some (.builtin "BaseException.__getattribute__"))) && (decide (findIn K (.ref C) "__getattr__" = some none) &&
  (decide (findIn K (.ref C) "__class__" = some (some (.builtin "object.__class__"))) && (decide (specialIn K (.builtin "object.__class__") "__get__" = some (some (.builtin "getset_descriptor.__get__"))) && (decide (takesIn K (.builtin "object.__class__") = some true) && (decide (mroIn K C (.type "object") = some true) &&
  decide (typeIn K (.ref C) = some (.type "type"))))))))))))))
theorem XC.of {K : Frag} {C : Addr} {bmB : List Value} {newId B initId : String} (b : Bs bmB newId B initId) (h : xcB K C bmB newId B = true) : XC K C B initId := by
  unfold xcB at h
  simp only [Bool.and_eq_true, decide_eq_true_eq] at h
  obtain ⟨h1, h2, h3, h4, h5, h6, h7, h8, h9, h10, h11, h12, h13, h14⟩ := h
  exact ⟨⟨bmB, newId, b, h1, h2⟩, h3, h4, h5, h6, h7, h8, h9, h10, h11, h12, h13, h14⟩
/-! ### an instance made -/
section
variable {X : Cx} {pins : List (Addr × Obj)} {σ : L2.St} {H : Hp} {s : Shared} {C : Addr} {B initId : String}
theorem Inv.exc {hp : Heap} {g : Array GenState} {dr : Drawn} {tk : Nat} {os : OsState} (us : List Value) (I : Inv X pins σ H ⟨hp, g, dr, tk, os⟩) :
    Inv X pins σ (upd H (hp.objs.size + 1) (exo (hp.objs.size + 1) C none)) ⟨xHeap hp C us, g, dr, tk, os⟩ :=
  I.laid (t' := tk) (a := hp.objs.size + 1) (o := exo (hp.objs.size + 1) C none) (h' := xHeap hp C us) (fun b o e => Heap.get?_push_of_some _ (Heap.get?_push_of_some _ e)) (Nat.le_succ _)
    (exo_ok (t1 := hp.objs.size) (show (xHeap hp C us).get? (hp.objs.size + 1) = some (xObj C none hp.objs.size) by heap_get))
/-- X(..), X without own __init__ -/
theorem run_xB {us : List Value} {Q : VK} (T : XC X.K C B initId) (hi : findIn X.K (.ref C) "__init__" = some (some (.builtin initId))) (I : Inv X pins σ H s) (hz : us.length ≤ sizeLine)
    (h : ∀ a, H a = none → Q (.ref a) (upd H a (exo a C none))) : wpAny (model X.prog X.w) X.A (call (.ref C) us) (EP X pins σ Q) X.xe s := by
  obtain ⟨bmB, newId, ⟨hB, ⟨NB, inN, bmN, FN, TN⟩, ini, _⟩, q1, q2⟩ := T.made
  obtain ⟨nm, N, qn, bs, bm, hdct, sn, sub, ab, col, dd, k0, k1, k2, k3, k5, hC, hT⟩ := excInit_of I.kIn q1
  obtain ⟨hp, g, dr, tk, os⟩ := s
  have hn : H (hp.objs.size + 1) = none := I.hok.fresh (Nat.le_succ _)
  have J := Inv.exc (C := C) us I
  have gx : (xHeap hp C us).get? (hp.objs.size + 1) = some (xObj C none hp.objs.size) := by heap_get
  refine wpAny_call (x_call FN ⟨by rw [hT]; exact TN.base, by rw [hT]; exact TN.att, by rw [hT]; exact TN.nme⟩ hC (looks_findIn I.kIn hi) (fun self => Looks.of_pure (ini.slot.bind self)) hz
    (x_base ini (Heap.get?_push_of_some _ (Heap.get?_push_of_some _ hC)) (by rw [hT]; exact hB) gx hz fun h' t1 k e' => ⟨rfl, .ref (hp.objs.size + 1), _, ?_, rfl, h _ hn⟩))
  exact I.laid (t' := tk) (a := hp.objs.size + 1) (o := exo (hp.objs.size + 1) C none) (h' := h') (fun b o e => k b o (Nat.ne_of_lt (Nat.lt_succ_of_lt (Heap.lt_size e))) (Heap.get?_push_of_some _ (Heap.get?_push_of_some _ e))) (Nat.le_succ _) (exo_ok e')
/-- X(..), X with own __init__ -/
theorem run_xN {CX : CXT} {k n : Nat} {f : Addr} {fd : FuncData} {ps ks : List Str} {sp : Sp} {E : XK} {g : List Value → List Value → List Value} {gV : List V → List V → List V} {Q : VK} {us ws : List Value} {vs zs : List V}
    (T : XC X.K C B initId) (iC : findIn X.K (.ref C) "__init__" = some (some (.ref f))) (tI : typeIn X.K (.ref f) = some (.type "function")) (F : FnOk X.prog X.w X.K X.mg X.base CX k f fd ps sp) (hr : Room (k + 1) X.A) (hb : KBn X.K fd ps (n + 1) ks g gV)
    (hx : Passes CX X E) (I : Inv X pins σ H s) (r : Vals vs us) (rz : Vals zs ws) (l1 : vs.length = n) (l2 : zs.length = ks.length) (hz : n ≤ 1000)
    (h : ∀ a, H a = none → sp (gV (.ref a :: vs) zs) (upd H a (exo a C none)) (fun v H2 => v = .non ∧ Q (.ref a) H2) E) :
    wpAny (model X.prog X.w) X.A (call (.ref C) us (ks.zip ws)) (EP X pins σ Q) X.xe s := by
  obtain ⟨bmB, newId, ⟨hB, ⟨NB, inN, bmN, FN, TN⟩, ini, _⟩, q1, q2⟩ := T.made
  obtain ⟨nm, N, qn, bs, bm, hdct, sn, sub, ab, col, dd, k0, k1, k2, k3, k5, hC, hT⟩ := excInit_of I.kIn q1
  obtain ⟨hp, g0, dr, tk, os⟩ := s
  have hn : H (hp.objs.size + 1) = none := I.hok.fresh (Nat.le_succ _)
  have hq := h _ hn
  have J := Inv.exc (C := C) us I
  have r1 : Vals (V.ref (hp.objs.size + 1) :: vs) (Value.ref (hp.objs.size + 1) :: us) := .cons rfl r
  have r2 := hb.rel r1 rz
  have e1 : (Value.ref (hp.objs.size + 1) :: us).length = n + 1 := r1.length.symm.trans (congrArg Nat.succ l1)
  have e2 : ws.length = ks.length := rz.length.symm.trans l2
  have hus : us.length ≤ sizeLine := by
    rw [← Paired.length r, sizeLine_eq]
    omega
  refine wpAny_call (x_call FN ⟨by rw [hT]; exact TN.base, by rw [hT]; exact TN.att, by rw [hT]; exact TN.nme⟩ hC (looks_findIn I.kIn iC) (fun self => bind_fn I.kIn self tI) hus
    (codeAny_mono (F.run _ X.stack _ _ ⟨Value.ref (hp.objs.size + 1) :: us, ks.zip ws⟩ (g (Value.ref (hp.objs.size + 1) :: us) ws) _ _ E (hr.make C us (ks.zip ws)) (J.env0.make C us (ks.zip ws)) (hb.to _ (Value.ref (hp.objs.size + 1) :: us) ws J.kIn e1 e2) r2 hq) fun r s' hq' => ?_))
  cases r with
  | error e => exact hx pins σ _ _ e s' J hq'
  | ok fl =>
    cases fl with
    | ret u =>
      obtain ⟨v, H', I3, rv, ev, q3⟩ := J.after hq'
      subst ev
      exact ⟨rv, ⟨V.ref (hp.objs.size + 1), H', I3, rfl, q3⟩⟩
    | next => exact False.elim hq'
    | brk => exact False.elim hq'
    | cont => exact False.elim hq'
end
def tXB (C : Addr) (t : TA) : TE := fun σ H Q => t σ H fun vs H1 => vs.length ≤ 1000 ∧ ∀ a, H1 a = none → Q (.ref a) (upd H1 a (exo a C none))
def tXN (C : Addr) (n m : Nat) (sp : Sp) (gV : List V → List V → List V) (E : XK) (t tk : TA) : TE := fun σ H Q => t σ H fun vs H1 => tk σ H1 fun zs H2 => vs.length = n ∧ zs.length = m ∧ n ≤ 1000 ∧
  ∀ a, H2 a = none → sp (gV (.ref a :: vs) zs) (upd H2 a (exo a C none)) (fun v H3 => v = .non ∧ Q (.ref a) H3) E
section
variable {X : Cx} {CX : CXT} {k n : Nat} {f C : Addr} {fd : FuncData} {ps ks : List Str} {sp : Sp} {E : XK} {x : Str} {p pos : Pos} {e : Expr} {es : List Expr} {kws : List Keyword} {t tk : TA} {g : List Value → List Value → List Value} {gV : List V → List V → List V} {B initId : String}
theorem pe_xB0 (T : XC X.K C B initId) (hi : findIn X.K (.ref C) "__init__" = some (some (.builtin initId))) (hg : Gl X x) (hm : X.mg x = some (.ref C)) (hdb : (x == ("__debug__" : Str)) = false := by decide) : PE X (.Call (.Name x p) [] [] pos) (tXB C tNil) := by
  refine ⟨fun pins s σ H Q I h => ?_⟩
  refine wpAny_Call_Name_kw (ld_glob I hg hm ?_ hdb)
  refine callWith_KW0 (h₀ := X.base) (kws := []) I.ok.mod.kin T.kp (by rfl) ?_ (by rfl)
  refine thn ((pk_nil (X := X)).run pos pins s σ H _ I h) fun ws s2 ⟨zs, H2, I2, rz, l1, q2⟩ => ⟨I2.kIn, ?_⟩
  exact run_xB T hi I2 (Nat.zero_le _) q2
theorem pe_xB (T : XC X.K C B initId) (hi : findIn X.K (.ref C) "__init__" = some (some (.builtin initId))) (hg : Gl X x) (hm : X.mg x = some (.ref C)) (ha : PA X (e :: es) t) (hdb : (x == ("__debug__" : Str)) = false := by decide)
    (he : starEach (e :: es) X.env = (false, eval e X.env) :: starEach es X.env := by rfl) (hpl : (backTo pos (starEach es X.env)).any (·.1) = false := by rfl) : PE X (.Call (.Name x p) (e :: es) [] pos) (tXB C t) := by
  refine ⟨fun pins s σ H Q I h => ?_⟩
  refine wpAny_Call_Name_kw (ld_glob I hg hm ?_ hdb)
  refine callWith_K (h₀ := X.base) I.ok.mod.kin T.kp (thn (ha.run pos pins s σ H _ I h) fun us s1 ⟨vs, H1, I1, r, l1, q⟩ => ⟨I1.kIn, ?_⟩) he hpl
  exact run_xB T hi I1 (show us.length ≤ sizeLine by rw [← Paired.length r, sizeLine_eq]; omega) q
theorem pe_xN (T : XC X.K C B initId) (iC : findIn X.K (.ref C) "__init__" = some (some (.ref f))) (tI : typeIn X.K (.ref f) = some (.type "function")) (F : FnOk X.prog X.w X.K X.mg X.base CX k f fd ps sp) (hr : Room (k + 1) X.A) (hg : Gl X x) (hm : X.mg x = some (.ref C)) (hb : KBn X.K fd ps (n + 1) ks g gV) (hx : Passes CX X E) (ha : PA X (e :: es) t) (hkw : PK X kws tk)
    (hall : (backToKw pos (keywordEach kws X.env)).all (·.1.isSome) = true := by rfl) (hks : (backToKw pos (keywordEach kws X.env)).filterMap (·.1) = ks := by rfl) (hdb : (x == ("__debug__" : Str)) = false := by decide)
    (he : starEach (e :: es) X.env = (false, eval e X.env) :: starEach es X.env := by rfl) (hpl : ((backTo pos (starEach (e :: es) X.env)).any (·.1) || (backToKw pos (keywordEach kws X.env)).any (·.1.isNone)) = false := by rfl) :
    PE X (.Call (.Name x p) (e :: es) kws pos) (tXN C n ks.length sp gV E t tk) := by
  refine ⟨fun pins s σ H Q I h => ?_⟩
  refine wpAny_Call_Name_kw (ld_glob I hg hm ?_ hdb)
  refine callWith_KW (h₀ := X.base) I.ok.mod.kin T.kp hall (thn (ha.run pos pins s σ H _ I h) fun us s1 ⟨vs, H1, I1, r, q⟩ => ?_) hpl he
  refine thn (hkw.run pos pins s1 σ H1 _ I1 q) fun ws s2 ⟨zs, H2, I2, rz, l1, l2, l3, q2⟩ => ⟨I2.kIn, ?_⟩
  rw [hks]
  exact run_xN T iC tI F hr hb hx I2 r rz l1 l2 l3 q2
theorem pe_xK (T : XC X.K C B initId) (iC : findIn X.K (.ref C) "__init__" = some (some (.ref f))) (tI : typeIn X.K (.ref f) = some (.type "function")) (F : FnOk X.prog X.w X.K X.mg X.base CX k f fd ps sp) (hr : Room (k + 1) X.A) (hg : Gl X x) (hm : X.mg x = some (.ref C)) (hb : KBn X.K fd ps 1 ks g gV) (hx : Passes CX X E) (hkw : PK X kws tk)
    (hall : (backToKw pos (keywordEach kws X.env)).all (·.1.isSome) = true := by rfl) (hks : (backToKw pos (keywordEach kws X.env)).filterMap (·.1) = ks := by rfl) (hdb : (x == ("__debug__" : Str)) = false := by decide)
    (hpl : ((backTo pos (starEach [] X.env)).any (·.1) || (backToKw pos (keywordEach kws X.env)).any (·.1.isNone)) = false := by rfl) :
    PE X (.Call (.Name x p) [] kws pos) (tXN C 0 ks.length sp gV E tNil tk) := by
  refine ⟨fun pins s σ H Q I h => ?_⟩
  refine wpAny_Call_Name_kw (ld_glob I hg hm ?_ hdb)
  refine callWith_KW0 (h₀ := X.base) I.ok.mod.kin T.kp hall ?_ hpl
  refine thn (hkw.run pos pins s σ H _ I h) fun ws s2 ⟨zs, H2, I2, rz, l1, l2, l3, q2⟩ => ⟨I2.kIn, ?_⟩
  rw [hks]
  exact run_xN (us := []) (vs := []) T iC tI F hr hb hx I2 .nil rz rfl l2 l3 q2
end
/-! ### self.f = y -/
section
variable {X : Cx} {pins : List (Addr × Obj)} {σ : L2.St} {H : Hp} {s : Shared} {a C dx : Addr} {f : Str} {y : V} {u : Value} {fs : List (Str × V)} {Q : Unit → Shared → Prop} {E : Value → Shared → Prop} {A : Around} {B initId : String}
theorem xst_new (T : XC X.K C B initId) (I : L2.Inv X pins σ H s) (e : H a = some (exo a C none)) (ht : takerIn X.K C f = some none) (ry : RelV y u)
    (h : ∀ dx s', H dx = none → dx ≠ a → L2.Inv X pins σ (upd (upd H dx (exd dx [(f, y)])) a (exo a C (some dx))) s' → Q () s') : wpAny (model X.prog X.w) A (setAttr (.ref a) f u) Q E s := by
  obtain ⟨bmB, newId, ⟨_, _, _, Bx, SF⟩, _, q2⟩ := T.made
  obtain ⟨t1, ho⟩ := exo_at I.hok e
  obtain ⟨cd, hc, hcd⟩ := any_some (show (clsIn X.K C).any (·.hasDict) = true from T.hd)
  obtain ⟨hp, g, d, t, os⟩ := s
  refine set_plain (od := none) I.kIn ⟨ho, rfl, rfl, trivial⟩ T.sa (osa_openX (od := none) SF I.kIn ⟨ho, rfl, rfl, trivial⟩ q2 ht fun b => ?_)
  have la : a < hp.objs.size := Heap.lt_size ho
  have nn : H hp.objs.size = none := I.hok.fresh (Nat.le_refl _)
  have g1 : ((hp.push (dictOf [] 0)).update a fun o => { o with dict := some hp.objs.size }).get? hp.objs.size = some (dictOf [] 0) := by
    rw [Heap.get?_update_other _ _ (Nat.ne_of_lt la)]
    exact Heap.get?_push_size hp rfl
  have g2 : ((hp.push (dictOf [] 0)).update a fun o => { o with dict := some hp.objs.size }).get? a = some (xObj C (some hp.objs.size) t1) := Heap.get?_update_self _ (Heap.get?_push_of_some _ ho) rfl
  refine wpAny_bind (wpAny_pure (wpAny_bind (instanceDict_exc (s := ⟨hp, g, d, t + 1, os⟩) ho (looks_clsIn I.kIn hc) hcd ?_)))
  show wpAny _ _ (storeInDict hp.objs.size (.str f _) f u) _ _ _
  refine HandSPX.store_in_new ⟨_, #[], _, g1, rfl, fun e he => absurd he (by simp), fun _ => rfl⟩ fun h' tk' hn hs => ?_
  have other : ∀ b o, b ≠ a → hp.get? b = some o → h'.get? b = some o := fun b o hb eo => by
    rw [hs.2 b (Nat.ne_of_lt (Heap.lt_size eo)), Heap.get?_update_other _ _ (Ne.symm hb)]
    exact Heap.get?_push_of_some _ eo
  have ga : h'.get? a = some (xObj C (some hp.objs.size) t1) := (hs.2 a (Nat.ne_of_lt la)).trans g2
  have na : ∀ {b : Addr}, H b = none → b ≠ a := fun {b} n z => by
    rw [z, e] at n
    cases n
  have nd : ∀ {b : Addr} {o : Obj}, hp.get? b = some o → b ≠ hp.objs.size := fun q => Nat.ne_of_lt (Heap.lt_size q)
  have U : Un X.fs [] H (upd (upd H hp.objs.size (exd hp.objs.size [(f, y)])) a (exo a C (some hp.objs.size))) hp h' := {
    keep := fun b o q n _ _ => other b o (na n) q
    slot := fun b o q n _ _ => ⟨o.slots, other b o (na n) q⟩
    free := fun b o q n _ => by rw [upd_ne (na n), upd_ne (nd q)]; exact n
    there := fun b o q _ => by
      by_cases hb : b = a
      · exact ⟨_, by rw [hb]; exact ga⟩
      · exact ⟨o, other b o hb q⟩
    tups := fun b xs q => by rw [upd_ne (at_ne e q exo_tup), upd_ne (ne_of_none q nn)]; exact q
    frzs := fun b o v q => by rw [upd_ne (at_ne e q exo_frz), upd_ne (ne_of_none q nn)]; exact q
    tbls := fun b ps q => ⟨#[], by rw [upd_ne (at_ne e q exo_tbl), upd_ne (ne_of_none q nn), q]; simp⟩ }
  refine h hp.objs.size ⟨h', g, d, tk', os⟩ nn (Nat.ne_of_gt la) (I.un (t' := tk') U fun b o q => ?_)
  by_cases hb : b = a
  · subst hb
    rw [upd_same] at q
    cases q
    exact exo_ok ga
  · rw [upd_ne hb] at q
    by_cases hd : b = hp.objs.size
    · subst hd
      rw [upd_same] at q
      cases q
      exact exd_ok hn (relO_put (fs := []) ry fun g => True.intro)
    · rw [upd_ne hd] at q
      exact (I.hok b o q).stay (fun c v hc z => other c v (by
          rcases hc with hc | hc
          · rw [hc]
            exact hb
          · exact at_ne e hc exo_own) z)
        (fun c hc => by rw [upd_ne (at_ne e hc exo_own), upd_ne (ne_of_none hc nn)]; exact hc) (fun c xs hc => by rw [upd_ne (at_ne e hc exo_tup), upd_ne (ne_of_none hc nn)]; exact hc)
theorem xst_old (T : XC X.K C B initId) (I : L2.Inv X pins σ H s) (e : H a = some (exo a C (some dx))) (ed : H dx = some (exd dx fs)) (hl : fs.length ≤ 900) (ht : takerIn X.K C f = some none) (ry : RelV y u)
    (h : ∀ s', L2.Inv X pins σ (upd H dx (exd dx ((f, y) :: fs))) s' → Q () s') : wpAny (model X.prog X.w) A (setAttr (.ref a) f u) Q E s := by
  obtain ⟨bmB, newId, ⟨_, _, _, Bx, SF⟩, _, q2⟩ := T.made
  obtain ⟨t1, ho⟩ := exo_at I.hok e
  obtain ⟨mA, hns, rel⟩ := exd_at I.hok ed
  have hw := within_of rel
  obtain ⟨cd, hc, hcd⟩ := any_some (show (clsIn X.K C).any (·.hasDict) = true from T.hd)
  obtain ⟨hp, g, d, t, os⟩ := s
  obtain ⟨oD, _, _, hoD, _, _⟩ := hns.count hw
  refine set_plain (od := some oD) I.kIn ⟨ho, rfl, rfl, hoD⟩ T.sa (osa_openX (od := some oD) SF I.kIn ⟨ho, rfl, rfl, hoD⟩ q2 ht fun b => ?_)
  refine wpAny_bind (wpAny_pure (wpAny_bind (wpAny_bind (wpAny_loadPart ho (wpAny_bind ((looks_clsIn I.kIn hc).at ?_))))))
  rw [hcd]
  refine wpAny_pure (a := some dx) ?_
  refine OEX.store_in_old hns hw (by rw [List.length_map]; omega) fun h' tk' hn hs => ?_
  have there : ∃ o, h'.get? dx = some o := by
    obtain ⟨o, _, _, e', _⟩ := hn
    exact ⟨o, e'⟩
  exact h _ (I.write (t' := tk') (x := dx) (e := dx) (o := exd dx ((f, y) :: fs)) (by rw [ed]; exact True.intro) (.inl rfl) (fun b o hb q => (hs.2 b hb).trans q) there (exd_ok hn (relO_put ry rel)))
/-- X.__init__(self, ..), X built in -/
theorem xinit_ok {us : List Value} {Q : Value → Shared → Prop} (T : XC X.K C B initId) (I : L2.Inv X pins σ H s) (e : H a = some (exo a C none)) (hl : us.length ≤ sizeLine) (h : ∀ s', L2.Inv X pins σ H s' → Q .none s') :
    wpAny (model X.prog X.w) A (call (.builtin initId) (.ref a :: us)) Q E s := by
  obtain ⟨bmB, newId, ⟨hB, _, ini, _⟩, q1, _⟩ := T.made
  obtain ⟨nm, N, qn, bs, bm, hdct, sn, sub, ab, col, dd, k0, k1, k2, k3, k5, hC, hT⟩ := excInit_of I.kIn q1
  obtain ⟨t1, ho⟩ := exo_at I.hok e
  obtain ⟨hp, g, d, t, os⟩ := s
  refine wpAny_call (x_base ini hC (by rw [hT]; exact hB) ho hl fun h' t2 k hx => ?_)
  have J := I.write (t' := t) (x := a) (e := a) (o := exo a C none) (by rw [e]; exact True.intro) (.inl rfl) k ⟨_, hx⟩ (exo_ok hx)
  have eu : upd H a (exo a C none) = H := by
    funext b
    by_cases hb : b = a
    · rw [hb, upd_same, e]
    · rw [upd_ne hb]
  rw [eu] at J
  exact h _ J
end
def tXst (K : Frag) (f : Str) (to te : TE) : TS := fun D σ H => te σ H fun y H1 => to σ H1 fun x H2 => ∃ (a C : Addr) (B ini : String), x = .ref a ∧ XC K C B ini ∧ takerIn K C f = some none ∧
  ((H2 a = some (exo a C none) ∧ ∀ dx, H2 dx = none → dx ≠ a → D.nx σ (upd (upd H2 dx (exd dx [(f, y)])) a (exo a C (some dx)))) ∨
    ∃ (dx : Addr) (fs : List (Str × V)), H2 a = some (exo a C (some dx)) ∧ H2 dx = some (exd dx fs) ∧ fs.length ≤ 900 ∧ D.nx σ (upd H2 dx (exd dx ((f, y) :: fs))))
def tXI (K : Frag) (initId : String) (ta : TA) : TE := fun σ H Q => ta σ H fun vs H1 => ∃ (a C : Addr) (B : String) (ws : List V), vs = .ref a :: ws ∧ ws.length ≤ 1000 ∧ XC K C B initId ∧ H1 a = some (exo a C none) ∧ Q .non H1
def tXF (K : Frag) (n : Str) (te : TE) : TE := fun σ H Q => te σ H fun x H1 => ∃ (a C : Addr) (B ini : String) (dx : Addr) (fs : List (Str × V)) (v : V), x = .ref a ∧ XC K C B ini ∧ findIn K (.ref C) n = some none ∧ H1 a = some (exo a C (some dx)) ∧ H1 dx = some (exd dx fs) ∧ fs.lookup n = some v ∧ Q v H1
/-- an exception's object, with a dict or none -/
def IsX (H : Hp) (a C : Addr) : Prop := H a = some (exo a C none) ∨ ∃ dx fs, H a = some (exo a C (some dx)) ∧ H dx = some (exd dx fs)
def rIsX (K : Frag) : List V → Hp → VK → Prop := fun xs H Q => ∃ (a C : Addr) (B ini : String) (c : V) (u : Value) (b : Bool), xs = [.ref a, c] ∧ IsX H a C ∧ XC K C B ini ∧ ClsV c u ∧ kitOne K (.ref C) u = some b ∧ Q (.bl b) H
section
variable {X : Cx} {o e : Expr} {es : List Expr} {to te : TE} {ta : TA} {f : Str} {p p' p1 p2 pos : Pos}
theorem ps_xst (ho : PE X o to) (he : PE X e te) (hs : swapsWith e (some (.Attribute o f p')) pos.line X.env = pure false := by rfl) : PS X (.Assign [.Attribute o f p'] e pos) (tXst X.K f to te) := by
  refine ⟨fun pins s σ H D I h => ?_⟩
  refine plainObj_wpAny_Assign_Attribute (thn (he.run pins s σ H _ I h) fun v s1 ⟨y, H1, I1, r1, q1⟩ => thn (ho.run pins s1 σ H1 _ I1 q1) fun u s2 ⟨x, H2, I2, r2, a, C, B, ini, ex, T, ht, q⟩ => ?_) hs
  subst ex
  obtain rfl : u = Value.ref a := r2
  rcases q with ⟨ea, q⟩ | ⟨dx, fs, ea, ed, hl, q⟩
  · exact xst_new T I2 ea ht r1 fun dx s' n ne J => ⟨σ, _, J, q dx n ne⟩
  · exact xst_old T I2 ea ed hl ht r1 fun s' J => ⟨σ, _, J, q⟩
/-- C.__init__(self, ..), C an own class without own __init__ -/
theorem pe_xinitC {x : Str} {C : Addr} {mc : Value} {initId : String} {pl : Sem Bool} (hg : Gl X x) (hm : X.mg x = some (.ref C)) (rd : readsIn X.K C mc = true) (gc : specialIn X.K (.ref C) "__getattribute__" = some (some (.builtin "type.__getattribute__")))
    (vV : findCls X.K (.ref C) mc "__init__" = some (.val (.builtin initId))) (hh : handedIn (.builtin initId) = true) (ha : PA X (e :: es) ta)
    (hc : eval (.Call (.Attribute (.Name x p1) "__init__" p2) (e :: es) [] pos) X.env = (do
      let ov ← eval (.Name x p1) X.env
      standAt p2.atName
      let (f, first) ← holding [ov] (getMethod ov "__init__" pl)
      callWith pos f first (backTo pos (starEach (e :: es) X.env)) (backToKw pos (keywordEach [] X.env))) := by rfl)
    (hdb : (x == ("__debug__" : Str)) = false := by decide) (he : starEach (e :: es) X.env = (false, eval e X.env) :: starEach es X.env := by rfl) (hpl : (backTo pos (starEach es X.env)).any (·.1) = false := by rfl) :
    PE X (.Call (.Attribute (.Name x p1) "__init__" p2) (e :: es) [] pos) (tXI X.K initId ta) := by
  refine ⟨fun pins s σ H Q I h => ?_⟩
  refine methodCall_KW (ld_glob I hg hm ?_ hdb) hc
  refine method_cls I.kIn gc (cls_value I.kIn rd vV hh ?_)
  show wpAny _ _ (callWith pos (Value.builtin initId) [] (backTo pos (starEach (e :: es) X.env)) []) _ _ _
  refine callWith_method1 (thn (ha.run pos pins _ σ H _ (I.tok _) h) fun us s1 ⟨vs, H1, I1, r1, a, C', B, ws, ev, hl, T, ea, q⟩ => ?_) he hpl
  subst ev
  cases r1 with
  | @cons _ u0 _ ur ra rw' =>
    obtain rfl : u0 = Value.ref a := ra
    have hlen : ur.length ≤ sizeLine := by
      rw [← Paired.length rw', sizeLine_eq]
      omega
    exact xinit_ok T I1 ea hlen fun s' J => ⟨.non, H1, J, rfl, q⟩
/-- B.__init__(self, ..), B a built-in class -/
theorem pe_xinitT {B initId : String} {x : Str} {pl : Sem Bool} (hg : Gl X x) (hm : X.mg x = none) (hv : bootBuiltins x = some (.type B)) (ht : typeOf (.type B) = pure (.type "type")) (hst : Manifest.isStub B = false) (vV : findCls X.K (.type B) (.type "type") "__init__" = some (.val (.builtin initId))) (hh : handedIn (.builtin initId) = true) (ha : PA X (e :: es) ta)
    (hc : eval (.Call (.Attribute (.Name x p1) "__init__" p2) (e :: es) [] pos) X.env = (do
      let ov ← eval (.Name x p1) X.env
      standAt p2.atName
      let (f, first) ← holding [ov] (getMethod ov "__init__" pl)
      callWith pos f first (backTo pos (starEach (e :: es) X.env)) (backToKw pos (keywordEach [] X.env))) := by rfl)
    (hn : x ≠ "__name__" := by decide) (hdb : (x == ("__debug__" : Str)) = false := by decide) (he : starEach (e :: es) X.env = (false, eval e X.env) :: starEach es X.env := by rfl) (hpl : (backTo pos (starEach es X.env)).any (·.1) = false := by rfl) :
    PE X (.Call (.Attribute (.Name x p1) "__init__" p2) (e :: es) [] pos) (tXI X.K initId ta) := by
  refine ⟨fun pins s σ H Q I h => ?_⟩
  refine methodCall_KW (ld_blt I hg hm hv ?_ hn hdb) hc
  obtain ⟨m, fr⟩ := I.fr
  refine method_type fr I.ok.mod.kin ht hst vV hh ?_
  show wpAny _ _ (callWith pos (Value.builtin initId) [] (backTo pos (starEach (e :: es) X.env)) []) _ _ _
  refine callWith_method1 (thn (ha.run pos pins _ σ H _ (I.tok _) h) fun us s1 ⟨vs, H1, I1, r1, a, C', B', ws, ev, hl, T, ea, q⟩ => ?_) he hpl
  subst ev
  cases r1 with
  | @cons _ u0 _ ur ra rw' =>
    obtain rfl : u0 = Value.ref a := ra
    have hlen : ur.length ≤ sizeLine := by
      rw [← Paired.length rw', sizeLine_eq]
      omega
    exact xinit_ok T I1 ea hlen fun s' J => ⟨.non, H1, J, rfl, q⟩
/-- e.n -/
theorem pe_xfld {n : Str} (he : PE X e te) (hb : attributeBase e n X.env (eval e X.env) = eval e X.env := by rfl) : PE X (.Attribute e n pos) (tXF X.K n te) := by
  refine ⟨fun pins s σ H Q I h => ?_⟩
  refine attr_of hb (thn (he.run pins s σ H _ I h) fun u s1 hh => ?_)
  obtain ⟨x, H1, I1, rx, a, C, B, ini, dx, fs, v, ex, T, hno, ea, ed, l, q⟩ := hh
  subst ex
  obtain rfl : u = Value.ref a := rx
  obtain ⟨t1, ho⟩ := exo_at I1.hok ea
  obtain ⟨mA, hns, hr⟩ := exd_at I1.hok ed
  obtain ⟨od, hd, hl⟩ := lookIn_ns hns
  obtain ⟨u, hu, ru⟩ := RelO.some_of (v := v) (o := mA n) (by rw [← l]; exact hr n)
  exact HandSPX.exc_get I1.kIn ⟨ho, rfl, rfl, hd⟩ T.ga T.gg T.ex (findObj_own T.hd hno rfl (by rw [hl, hu])) (handed_of ru) ⟨v, H1, I1.tok _, ru, q⟩
theorem call_isX : CallR X (.builtin "isinstance") (rIsX X.K) := by
  intro pins s σ H xs us Q I r h
  obtain ⟨a, C, B, ini, c, u, b, rfl, ix, T, k, e, q⟩ := h
  obtain ⟨u1, u2, rfl, r1, r2⟩ := vals2 r
  have e2 := k.eq r2
  subst e2
  cases (show u1 = Value.ref a from r1)
  obtain ⟨cd, hc, _⟩ := any_some (show (clsIn X.K C).any (·.hasDict) = true from T.hd)
  have hcl : (clsIn X.K C).isSome = true := by rw [hc]; rfl
  have ⟨ox, od, J⟩ : ∃ ox od, InstAt s.heap a ox C od := by
    rcases ix with ea | ⟨dx, fs, ea, ed⟩
    · obtain ⟨t1, ho⟩ := exo_at I.hok ea
      exact ⟨_, none, ho, rfl, rfl, trivial⟩
    · obtain ⟨t1, ho⟩ := exo_at I.hok ea
      obtain ⟨mA, hns, hr⟩ := exd_at I.hok ed
      obtain ⟨od, hd, hl⟩ := lookIn_ns hns
      exact ⟨_, some od, ho, rfl, rfl, hd⟩
  exact kia_one (kitx_exc hcl T.ga T.gg T.ex T.ca T.cn T.ct T.mo) I.kIn J e (fun z => nomatch z) fun tk => ⟨.bl b, H, I.tok tk, rfl, q⟩
end
/-! ### t[::-1] of a triple -/
section
variable {prog : Program} {w : World} {A : Around} {E : Value → Shared → Prop} {s : Shared}
theorem getItem_rev3 {t sl : Addr} {x y z : Value} {u : Tok} {Q : Value → Shared → Prop} (ht : IsTup s.heap t #[x, y, z]) (hs : s.heap.IsSliceOf sl .none .none (.int (-1) u))
    (h : Q (.ref s.heap.objs.size) { s with heap := s.heap.push { cls := .type "tuple", data := .seq #[z, y, x] } }) : wpAny (model prog w) A (getItem (.ref t) (.ref sl)) Q E s := by
  obtain ⟨os, hos, hcs, hds⟩ := id hs
  have hTs : s.TypeIs (.ref sl) "slice" := ⟨os, hos, hcs⟩
  unfold getItem
  try with_reducible refine wpAny_holding ?_
  first | refine wpAny_bind (wpAny_pure ?_) | skip
  refine wpAny_bind (wpAny_sequenceKey ht.typeIs (by decide) ?_)
  refine wpAny_bind (wpAny_callSpecial?_slot (name := Str.ofString "__getitem__") ht.typeIs PyProof.Rows.slot_tuple_getitem
    (wpAny_call_entry PyProof.Rows.slot_tuple_getitem ht.typeIs entry_tuple_getitem ?_ (args_tuple_getitem _ _)))
  show wpAny _ _ (Builtin.Tuple.tupleItemsOf (.ref t) >>= _) _ _ s
  refine wpAny_bind (tupleItemsOf_ ht ?_)
  refine wpAny_bind (wpAny_typeOf hTs ?_)
  rw [if_pos (by decide)]
  refine wpAny_bind ?_
  unfold Builtin.Slice.sliceApplied Builtin.Slice.sliceFields
  refine wpAny_bind (wpAny_bind (wpAny_field hos hds (x := .none) rfl (wpAny_bind (wpAny_field hos hds (x := .none) rfl (wpAny_bind (wpAny_field hos hds (x := .int (-1) u) rfl (wpAny_pure ?_)))))))
  refine wpAny_bind (HT.slicePart_ (.int (-1) u) ?_)
  show wpAny _ _ (if ((-1 : Int) == 0) = true then _ else _) _ _ s
  rw [if_neg (by decide)]
  refine wpAny_bind (HT.slicePart_ .none (wpAny_bind (HT.slicePart_ .none (wpAny_bind (wpAny_pure ?_)))))
  refine wpAny_of_eq (a := ((2 : Int), (-1 : Int), 3)) (by first | rfl | kernel_rfl) ?_
  show wpAny _ _ (if ((2 : Int) == 0 && (-1 : Int) == 1 && (3 : Nat) == 3) = true then _ else _) _ _ s
  rw [if_neg (by decide)]
  have hsz : sizeOk (.seq #[z, y, x]) := by
    show 3 ≤ sizeLine
    decide
  show wpAny _ _ (Builtin.Tuple.tupleExact #[z, y, x] >>= _) _ _ s
  first
    | exact wpAny_bind (m := Builtin.Tuple.tupleExact _) (wpAny_newObj_type (wpAny_pure ⟨_, rfl, wpAny_pure h⟩) hsz)
    | exact wpAny_bind (m := Builtin.Tuple.tupleExact _) (wpAny_newObj_type (wpAny_bind (wpAny_pure (wpAny_pure ⟨_, rfl, wpAny_pure h⟩))) hsz)
end
def tRev3 (K : Frag) (te : TE) : TE := fun σ H Q => te σ H fun v H1 => ∃ a x y z, v = .ref a ∧ SqT K H1 a [x, y, z] ∧ ∀ p, H1 p = none → Q (.ref p) (upd H1 p (.tup [z, y, x]))
theorem pe_rev3 {X : Cx} (K : Frag) (hK : X.K = K) {e : Expr} {te : TE} {k : Nat} {p1 p2 p3 pos : Pos} (he : PE X e te) : PE X (.Subscript e (.Slice none none (some (.UnaryOp .USub (.Constant (.int 1) k p1) p2)) p3) pos) (tRev3 K te) := by
  subst hK
  refine ⟨fun pins s σ H Q I h => ?_⟩
  refine Subscript_ (thn (he.run pins s σ H _ I h) fun v s1 ⟨w, H1, I1, r1, q1⟩ => ?_)
  obtain ⟨a, x, y, z, ex, hx, q⟩ := q1
  subst ex
  cases r1
  have hst : PO X (some (.UnaryOp .USub (.Constant (.int 1) k p1) p2)) (tPart (tUn (rU fun i => .int (-i)) (tC (.int 1)))) := po_some (pe_un un_neg pe_int)
  refine wpAny_Slice (thn (po_none.run pins s1 σ H1 (fun o H2 => o = none ∧ H2 = H1) I1 ⟨rfl, rfl⟩) fun vl s2 ⟨l, H2, I2, pl, el, e2⟩ => ?_)
  subst el e2
  cases pl
  refine thn (po_none.run pins s2 σ H2 (fun o H3 => o = none ∧ H3 = H2) I2 ⟨rfl, rfl⟩) fun vu s3 ⟨u, H3, I3, pu, eu, e3⟩ => ?_
  subst eu e3
  cases pu
  refine thn (hst.run pins s3 σ H3 (fun o H4 => o = some (-1) ∧ H4 = H3) I3 ⟨1, rfl, -1, rfl, rfl, rfl⟩) fun vs s4 ⟨o, H4, I4, ps, eo, e4⟩ => ?_
  subst eo e4
  cases ps with
  | int i t =>
    have I5 : L2.Inv X pins σ H4 { s4 with heap := s4.heap.push { cls := .type "slice", data := .fields #[.none, .none, .int (-1) t] } } := I4.kept (t' := s4.toks) fun b ob q => Heap.get?_push_of_some _ q
    obtain ⟨its, r, ht, hz⟩ := I5.tuple hx
    obtain ⟨u1, u2, u3, rfl, r1, r2, r3⟩ : ∃ u1 u2 u3, its = [u1, u2, u3] ∧ RelV x u1 ∧ RelV y u2 ∧ RelV z u3 := by
      cases r with
      | cons r1 r => cases r with
        | cons r2 r => cases r with
          | cons r3 r => cases r; exact ⟨_, _, _, rfl, r1, r2, r3⟩
    show wpAny (model X.prog X.w) X.A (subscriptTail e (.Slice none none (some (.UnaryOp .USub (.Constant (.int 1) k p1) p2)) p3) (.ref a) (.ref s4.heap.objs.size)) (EP X pins σ Q) X.xe { s4 with heap := s4.heap.push { cls := .type "slice", data := .fields #[.none, .none, .int (-1) t] } }
    refine tail_any (ops := [.ref a, .ref s4.heap.objs.size]) ht.typeIs PyProof.Rows.slot_tuple_getitem.lookup ?_ (by with_unfolding_all rfl)
    refine getItem_rev3 ht (Heap.IsSliceOf.new _ .none .none (.int (-1) t)) ?_
    refine ⟨.ref _, _, I5.laid (t' := s4.toks) (o := .tup [z, y, x]) (fun b ob q => Heap.get?_push_of_some _ q) (Nat.le_refl _) ?_, rfl, q _ (I5.hok.fresh (Nat.le_refl _))⟩
    exact ⟨by show 3 ≤ sizeLine; decide, [u3, u2, u1], .cons r3 (.cons r2 (.cons r1 .nil)), IsTup.new _ _⟩
/-! ### loops and comprehensions, further -/
section
variable {K : Frag} {σ : L2.St} {F H : Hp} {D : L2.Ends} {tl te : TE} {t : TT} {tz tbd : TS} {j k : Nat} {ds : List PyData} {tA : TA}
/-- for i, x in enumerate(xs) -/
theorem s_forE {a : Addr} {xs : List V} (h : ∀ Q : List V → Hp → Prop, (∀ F1 H1, Fr M0 F H F1 H1 → Q [.ref a] H1) → tA σ H Q) (s : Same F H) (ex : F a = some (.lst xs))
    (kk : ∀ F1 H1, Fr M0 F H F1 H1 → ∃ Pv : Nat → L2.St → Hp → Prop, Pv 0 σ H1 ∧ (∀ i σ' H', Pv i σ' H' → Same F H') ∧
      (∀ i x T σ' H', xs[i]? = some x → Pv i σ' H' → H' T = none → tbd { D with nx := Pv (i + 1), ct := Pv (i + 1), bk := tz D } ((σ'.set j (some (.int (i : Int)))).set k (some x)) (upd H' T (.tup [.int (i : Int), x]))) ∧ (∀ σ' H', Pv xs.length σ' H' → tz D σ' H')) :
    tSeq (tFor (iEnum K tA) (gTup K 2 (gCons (gName j) (gCons (gName k) gNil))) tbd) tz D σ H := h _ fun F1 H1 f1 => by
  obtain ⟨Pv, h0, hs, ht, he⟩ := kk F1 H1 f1
  refine ⟨a, xs, rfl, SqL.of (f1.fh _ _ (f1.ff _ _ ex)), for_it (D := { D with nx := tz D }) (walk_enum (xs := xs)) Pv h0 (fun i σ' H' _ p => SqL.of (hs i σ' H' p _ _ ex)) (fun i x σ' H' H'' hi p y => ?_) he⟩
  obtain ⟨T, x1, y1, rfl, nT, rfl, e1, e2⟩ := y
  cases e1
  exact ⟨T, [.int (i : Int), y1], rfl, SqT.of upd_same, rfl, _, _, rfl, _, _, rfl, rfl, ht i y1 T σ' H' e2 p nT⟩
/-- [.. for i in range(n)] of data, no condition -/
theorem eo_lcR {n : Nat} {vs : List Nat} (g : Nat → PyData) (h : EvA tA σ F [.int (n : Int)]) (hn : n ≤ 100000) (hw : ∀ x, wipe ((wipe σ vs).set j (some x)) vs = wipe σ vs)
    (he : ∀ (i : Nat) F1, i < n → Same F F1 → EvF te ((wipe σ vs).set j (some (.int (i : Int)))) F1 (g i)) : EvO (tLc (iRng1 tA) (gName j) tYes te vs) σ F ((List.range n).map g) := fun H0 s Q q => h H0 s _ fun zs F1 H1 f1 dz => by
  cases dz with
  | cons d1 dz =>
    cases dz
    cases d1.intE
    refine ⟨(n : Int), rfl, by omega, by omega, fun Dl nD => ?_⟩
    refine lc_range (lo := 0) (n := (n : Int).toNat) (fun i H' => ∃ F' vs', Fr (fun a => a = Dl) F1 (upd H1 Dl (.lst [])) F' H' ∧ H' Dl = some (.lst vs') ∧ DqAll F' vs' ((List.range i).map g)) ?_ ?_ ?_
    · exact ⟨F1, [], Fr.refl (fun a o e => by rw [upd_ne (ne_of_none (f1.fh _ _ e) nD)]; exact f1.fh _ _ e), upd_same, .nil⟩
    · rintro i H' hi ⟨F', vs', fr, hD, dvs⟩
      have hi' : i < n := by omega
      refine ⟨hw _, ?_⟩
      have nDF : F' Dl = none := fr.nw Dl _ (f1.fh.free nD) upd_same
      have e0 : (0 : Int) + (i : Int) = (i : Int) := Int.zero_add _
      show te ((wipe σ vs).set j (some (.int ((0 : Int) + (i : Int))))) H' _
      rw [e0]
      refine he i F' hi' (fun a o e => fr.ff _ _ (f1.ff _ _ e)) H' fr.fh _ fun v F3 H3 f3 dv3 => ?_
      have hD3 : H3 Dl = some (.lst vs') := f3.hh _ _ hD fun z => z
      have nD3 : F3 Dl = none := f3.nw _ _ nDF hD
      have hl : vs'.length = i := by rw [dvs.length, List.length_map, List.length_range]
      refine ⟨vs', hD3, by rw [hl, sizeLine_eq]; omega, F3, vs' ++ [v], (fr.trans f3.up).trans (Fr.put f3.fh nD3 rfl), upd_same, ?_⟩
      rw [List.range_succ, List.map_append]
      exact (dvs.mono f3.ff).append (.cons dv3 .nil)
    · rintro H' ⟨F', vs', fr, hD, dvs⟩
      rw [Int.toNat_natCast] at dvs
      exact q Dl vs' F' H' (f1.trans (fr.unown nD fun a z => .inl z)) (f1.st _ nD) (fr.nw Dl _ (f1.fh.free nD) upd_same) hD dvs
end
end Lx

set_option Elab.async false
set_option linter.all false
set_option maxRecDepth 100000
set_option maxHeartbeats 400000
/-! own exceptions as told values: class and fields -/
namespace Le
open PySem PySem.Spec PyProof.Rows L2 Ly Lr Lx PySem.W
structure XD where
  C : Addr
  fs : List (Str × PyData)
def XAt (K : Frag) : Hp → V → XD → Prop := fun F v x => ∃ a, v = .ref a ∧ (∃ B ini, XC K x.C B ini) ∧
  ((x.fs = [] ∧ F a = some (exo a x.C none)) ∨ ∃ dx ys, F a = some (exo a x.C (some dx)) ∧ F dx = some (exd dx ys) ∧ ∀ p, p ∈ x.fs → ∃ y, ys.lookup p.1 = some y ∧ Dp K F y p.2)
section
variable {K : Frag} {σ : L2.St} {F F1 H : Hp} {D : L2.Ends} {ta tb te : TE} {t tk : TA} {d : PyData} {ds es r : List PyData} {v : V} {C a : Addr} {B ini : String} {ns : List Str}
theorem XAt.mon : Mon (XAt K) := fun F F' v x k ⟨a, ev, T, h⟩ => ⟨a, ev, T, h.imp (fun ⟨e, ea⟩ => ⟨e, k _ _ ea⟩) fun ⟨dx, ys, ea, ed, h⟩ => ⟨dx, ys, k _ _ ea, k _ _ ed, fun p hp => let ⟨y, l, dy⟩ := h p hp; ⟨y, l, dpMono k dy⟩⟩⟩
theorem ex_B (T : XC K C B ini) (ht : EvVs (RP K) t σ F ds) (hl : ds.length ≤ 1000) : EvV (XAt K) (tXB C t) σ F ⟨C, []⟩ := fun H s Q q =>
  ht H s _ fun vs F1 H1 f1 dvs => ⟨by rw [dvs.length]; exact hl, fun a na => by
    have fn := Fr.new (M := M0) (o := exo a C none) f1.fh na
    exact q _ _ _ (f1.trans fn) ⟨a, rfl, ⟨B, ini, T⟩, .inl ⟨rfl, upd_same⟩⟩⟩
/-- what an __init__ does: the fields ns get the arguments -/
def spX (K : Frag) (ini : String) (ns : List Str) : Sp := fun vs H Q _ => ∃ (a C : Addr) (ys : List V), vs = .ref a :: ys ∧ (∃ B, XC K C B ini) ∧ (∀ n ∈ ns, takerIn K C n = some none) ∧ H a = some (exo a C none) ∧ ys.length = ns.length ∧
  ∀ dx H2 fs, H dx = none → dx ≠ a → H2 a = some (exo a C (some dx)) → H2 dx = some (exd dx fs) → (∀ (i : Nat) (n : Str) (y : V), ns[i]? = some n → ys[i]? = some y → fs.lookup n = some y) → (∀ b, b ≠ a → b ≠ dx → H2 b = H b) → Q .non H2
theorem taker_of {n : Str} (h : findIn K (.ref C) n = some none) : takerIn K C n = some none := by
  unfold takerIn
  rw [h]
  rfl
theorem frExc {F H H3 : Hp} {o1 o2 : HO} {dx : Addr} (s : Same F H) (na : H a = none) (nd : H dx = none) (ea : H3 a = some o2) (ed : H3 dx = some o1) (ne : dx ≠ a) (other : ∀ b, b ≠ a → b ≠ dx → H3 b = H b) : Fr M0 F H (upd (upd F dx o1) a o2) H3 := by
  have na' : ∀ {x o}, H x = some o → x ≠ a := fun e => ne_of_none e na
  have nd' : ∀ {x o}, H x = some o → x ≠ dx := fun e => ne_of_none e nd
  refine ⟨fun x o e => ?_, fun x o e => ?_, fun x o e _ => ?_, fun x e => ?_, fun x o e1 e2 => ?_⟩
  · rw [upd_ne (na' (s _ _ e)), upd_ne (nd' (s _ _ e))]
    exact e
  · by_cases h1 : x = a
    · subst h1
      rw [upd_same] at e
      rw [ea]
      exact e
    · rw [upd_ne h1] at e
      by_cases h2 : x = dx
      · subst h2
        rw [upd_same] at e
        rw [ed]
        exact e
      · rw [upd_ne h2] at e
        rw [other x h1 h2]
        exact s _ _ e
  · rw [other x (na' e) (nd' e)]
    exact e
  · by_cases h1 : x = a
    · rw [h1]; exact na
    · by_cases h2 : x = dx
      · rw [h2]; exact nd
      · rw [other x h1 h2] at e
        exact e
  · rw [upd_ne (na' e2), upd_ne (nd' e2)]
    exact e1
theorem ex_N {n m : Nat} {gV : List V → List V → List V} {E : XK} (T : XC K C B ini) (hf : ∀ n ∈ ns, findIn K (.ref C) n = some none) (ht : EvVs (RP K) t σ F ds) (hk : EvVs (RP K) tk σ F es) (hn : ds.length = n) (hm : es.length = m) (hz : n ≤ 1000)
    (hg : ∀ F (a : V) vs zs, Paired (RP K F) vs ds → Paired (RP K F) zs es → ∃ ys, gV (a :: vs) zs = a :: ys ∧ Paired (RP K F) ys r) (hr : r.length = ns.length) (h0 : ns ≠ []) :
    EvV (XAt K) (tXN C n m (spX K ini ns) gV E t tk) σ F ⟨C, ns.zip r⟩ := fun H s Q q =>
  ht H s _ fun vs F1 H1 f1 dvs => (hk.mono RP.mon f1.ff) H1 f1.fh _ fun zs F2 H2 f2 dzs => ⟨by rw [dvs.length]; exact hn, by rw [dzs.length]; exact hm, hz, fun a na => by
    obtain ⟨ys, e, py⟩ := hg F2 (.ref a) vs zs (RP.mon.all f2.ff dvs) dzs
    rw [e]
    refine ⟨a, C, ys, rfl, ⟨B, T⟩, fun n hn => taker_of (hf n hn), upd_same, py.length.trans hr, fun dx H3 fs nd ne ea ed hl other => ⟨rfl, ?_⟩⟩
    have nd2 : H2 dx = none := by
      rw [upd_ne ne] at nd
      exact nd
    have fr := frExc f2.fh na nd2 ea ed ne fun b h1 h2 => (other b h1 h2).trans (upd_ne h1)
    refine q _ _ _ ((f1.trans f2).trans fr) ⟨a, rfl, ⟨B, ini, T⟩, .inr ⟨dx, fs, upd_same, by rw [upd_ne ne]; exact upd_same, fun p hp => ?_⟩⟩
    obtain ⟨i, hi⟩ := List.mem_iff_getElem?.mp hp
    obtain ⟨n, d⟩ := p
    have hz' := List.getElem?_zip_eq_some.mp hi
    obtain ⟨y, hy, dy⟩ := pairedGet py hz'.2
    exact ⟨y, hl i n y hz'.1 hy, dpMono fr.ff dy⟩⟩
theorem ex_fld {n : Str} {x : XD} (h : EvV (XAt K) te σ F x) (hm : (n, d) ∈ x.fs) (hf : findIn K (.ref x.C) n = some none) : EvV (RP K) (tXF K n te) σ F d := fun H s Q q =>
  h H s _ fun v F1 H1 f1 ⟨a, ev, ⟨B, ini, T⟩, h⟩ => by
    rcases h with ⟨e, _⟩ | ⟨dx, ys, ea, ed, hl⟩
    · rw [e] at hm
      cases hm
    · obtain ⟨y, l, dy⟩ := hl _ hm
      exact ⟨a, x.C, B, ini, dx, ys, y, ev, T, hf, f1.fh _ _ ea, f1.fh _ _ ed, l, q _ F1 H1 f1 dy⟩
theorem ev_isX {x : XD} {c : V} {u : Value} {b : Bool} (h : EvV (XAt K) te σ F x) (hc : ClsV c u) (hk : kitOne K (.ref x.C) u = some b) : EvF (tCB (rIsX K) (tCons te (tCons (tC c) tNil))) σ F (.bool b) := fun H s Q q =>
  h H s _ fun v F1 H1 f1 ⟨a, ev, ⟨B, ini, T⟩, h⟩ => ⟨a, x.C, B, ini, c, u, b, by rw [ev], h.imp (fun ⟨_, ea⟩ => f1.fh _ _ ea) (fun ⟨dx, ys, ea, ed, _⟩ => ⟨dx, ys, f1.fh _ _ ea, f1.fh _ _ ed⟩), T, hc, hk, q _ F1 H1 f1 (.bl b)⟩
/-- bodies of __init__ -/
theorem init1 {y : V} {f1 m : Str} (h0 : σ[0]? = some (some (.ref a))) (h1 : σ[1]? = some (some y)) (T : XC K C B ini) (ea : H a = some (exo a C none)) (k1 : takerIn K C f1 = some none)
    (q : ∀ dx H2 fs, H dx = none → dx ≠ a → H2 a = some (exo a C (some dx)) → H2 dx = some (exd dx fs) → (∀ (i : Nat) (n : Str) (z : V), [f1][i]? = some n → [y][i]? = some z → fs.lookup n = some z) → (∀ b, b ≠ a → b ≠ dx → H2 b = H b) → D.nx σ H2) :
    tSeq (tDrop (tXI K ini (tCons (tVar 0) (tCons (tC (.str m)) tNil)))) (tXst K f1 (tVar 0) (tVar 1)) D σ H := by
  refine ⟨_, h0, a, C, B, [.str m], rfl, (by show 1 ≤ 1000; decide), T, ea, ?_⟩
  refine ⟨_, h1, _, h0, a, C, B, ini, rfl, T, k1, .inl ⟨ea, fun dx nd ne => ?_⟩⟩
  refine q dx _ [(f1, y)] nd ne upd_same (by rw [upd_ne ne]; exact upd_same) (fun i n z e1 e2 => ?_) fun b n1 n2 => by rw [upd_ne n1, upd_ne n2]
  match i, e1, e2 with
  | 0, e1, e2 =>
    cases (show some f1 = some n from e1)
    cases (show some y = some z from e2)
    rw [lookup_put, if_pos rfl]
theorem init2 {y1 y2 : V} {f1 f2 m : Str} (h0 : σ[0]? = some (some (.ref a))) (h1 : σ[1]? = some (some y1)) (h2 : σ[2]? = some (some y2)) (T : XC K C B ini) (ea : H a = some (exo a C none)) (k1 : takerIn K C f1 = some none) (k2 : takerIn K C f2 = some none) (n12 : f1 ≠ f2)
    (q : ∀ dx H2 fs, H dx = none → dx ≠ a → H2 a = some (exo a C (some dx)) → H2 dx = some (exd dx fs) → (∀ (i : Nat) (n : Str) (z : V), [f1, f2][i]? = some n → [y1, y2][i]? = some z → fs.lookup n = some z) → (∀ b, b ≠ a → b ≠ dx → H2 b = H b) → D.nx σ H2) :
    tSeq (tDrop (tXI K ini (tCons (tVar 0) (tCons (tC (.str m)) tNil)))) (tSeq (tXst K f1 (tVar 0) (tVar 1)) (tXst K f2 (tVar 0) (tVar 2))) D σ H := by
  refine ⟨_, h0, a, C, B, [.str m], rfl, (by show 1 ≤ 1000; decide), T, ea, ?_⟩
  refine ⟨_, h1, _, h0, a, C, B, ini, rfl, T, k1, .inl ⟨ea, fun dx nd ne => ?_⟩⟩
  refine ⟨_, h2, _, h0, a, C, B, ini, rfl, T, k2, .inr ⟨dx, _, upd_same, by rw [upd_ne ne]; exact upd_same, by show 1 ≤ 900; decide, ?_⟩⟩
  refine q dx _ _ nd ne (by rw [upd_ne (Ne.symm ne)]; exact upd_same) upd_same (fun i n z e1 e2 => ?_) fun b n1 n2 => by rw [upd_ne n2, upd_ne n1, upd_ne n2]
  match i, e1, e2 with
  | 0, e1, e2 =>
    cases (show some f1 = some n from e1)
    cases (show some y1 = some z from e2)
    rw [lookup_put, if_neg n12, lookup_put, if_pos rfl]
  | 1, e1, e2 =>
    cases (show some f2 = some n from e1)
    cases (show some y2 = some z from e2)
    rw [lookup_put, if_pos rfl]
theorem init3 {y1 y2 y3 : V} {f1 f2 f3 m : Str} (h0 : σ[0]? = some (some (.ref a))) (h1 : σ[1]? = some (some y1)) (h2 : σ[2]? = some (some y2)) (h3 : σ[3]? = some (some y3)) (T : XC K C B ini) (ea : H a = some (exo a C none)) (k1 : takerIn K C f1 = some none) (k2 : takerIn K C f2 = some none) (k3 : takerIn K C f3 = some none) (n12 : f1 ≠ f2) (n13 : f1 ≠ f3) (n23 : f2 ≠ f3)
    (q : ∀ dx H2 fs, H dx = none → dx ≠ a → H2 a = some (exo a C (some dx)) → H2 dx = some (exd dx fs) → (∀ (i : Nat) (n : Str) (z : V), [f1, f2, f3][i]? = some n → [y1, y2, y3][i]? = some z → fs.lookup n = some z) → (∀ b, b ≠ a → b ≠ dx → H2 b = H b) → D.nx σ H2) :
    tSeq (tDrop (tXI K ini (tCons (tVar 0) (tCons (tC (.str m)) tNil)))) (tSeq (tXst K f1 (tVar 0) (tVar 1)) (tSeq (tXst K f2 (tVar 0) (tVar 2)) (tXst K f3 (tVar 0) (tVar 3)))) D σ H := by
  refine ⟨_, h0, a, C, B, [.str m], rfl, (by show 1 ≤ 1000; decide), T, ea, ?_⟩
  refine ⟨_, h1, _, h0, a, C, B, ini, rfl, T, k1, .inl ⟨ea, fun dx nd ne => ?_⟩⟩
  refine ⟨_, h2, _, h0, a, C, B, ini, rfl, T, k2, .inr ⟨dx, _, upd_same, by rw [upd_ne ne]; exact upd_same, by show 1 ≤ 900; decide, ?_⟩⟩
  refine ⟨_, h3, _, h0, a, C, B, ini, rfl, T, k3, .inr ⟨dx, _, by rw [upd_ne (Ne.symm ne)]; exact upd_same, upd_same, by show 2 ≤ 900; decide, ?_⟩⟩
  refine q dx _ _ nd ne (by rw [upd_ne (Ne.symm ne), upd_ne (Ne.symm ne)]; exact upd_same) upd_same (fun i n z e1 e2 => ?_) fun b n1 n2 => by rw [upd_ne n2, upd_ne n2, upd_ne n1, upd_ne n2]
  match i, e1, e2 with
  | 0, e1, e2 =>
    cases (show some f1 = some n from e1)
    cases (show some y1 = some z from e2)
    rw [lookup_put, if_neg n13, lookup_put, if_neg n12, lookup_put, if_pos rfl]
  | 1, e1, e2 =>
    cases (show some f2 = some n from e1)
    cases (show some y2 = some z from e2)
    rw [lookup_put, if_neg n23, lookup_put, if_pos rfl]
  | 2, e1, e2 =>
    cases (show some f3 = some n from e1)
    cases (show some y3 = some z from e2)
    rw [lookup_put, if_pos rfl]
end
/-- what isinstance answers, as a table -/
def ktB (K : Frag) (cs : List Addr) (us : List Value) (tab : Nat → Nat → Bool) : Bool := (List.range cs.length).all fun i => (List.range us.length).all fun j => decide (kitOne K (.ref (cs.getD i 0)) (us.getD j .none) = some (tab i j))
theorem kt_of {K : Frag} {cs : List Addr} {us : List Value} {tab : Nat → Nat → Bool} (h : ktB K cs us tab = true) {i j : Nat} {c : Addr} {u : Value} (hc : cs[i]? = some c) (hu : us[j]? = some u) : kitOne K (.ref c) u = some (tab i j) := by
  obtain ⟨li, ei⟩ := List.getElem?_eq_some_iff.mp hc
  obtain ⟨lj, ej⟩ := List.getElem?_eq_some_iff.mp hu
  have h1 := List.all_eq_true.mp (List.all_eq_true.mp h i (List.mem_range.mpr li)) j (List.mem_range.mpr lj)
  have h2 := of_decide_eq_true h1
  rw [List.getD_eq_getElem?_getD, List.getD_eq_getElem?_getD, hc, hu] at h2
  exact h2
theorem typ_KeyError : typeOf (.type "KeyError") = pure (.type "type") := by kernel_rfl
theorem typ_IndexError : typeOf (.type "IndexError") = pure (.type "type") := by kernel_rfl
theorem stub_KeyError : Manifest.isStub "KeyError" = false := by decide +kernel
theorem stub_IndexError : Manifest.isStub "IndexError" = false := by decide +kernel
end Le

set_option Elab.async false
set_option linter.all false
set_option maxRecDepth 100000
set_option maxHeartbeats 400000
namespace K79
open PySem PySem.Spec PyProof.Rows L2 Ly Lr Lx Le
/-- which class stands under which: 19 sorts, TalkError, ValueError, KeyError, IndexError -/
def tabX (i j : Nat) : Bool := if j < 19 then i == j else if j < 21 then decide (i < 16) || i == 19 else if j = 21 then i == 16 || i == 17 else i == 18
def topS (i : Nat) : Stmt := PySem.Challenge.pw_talkwatch_k79_refusals_made.main.body.getD i (.Pass ⟨0, 0, 0, 0⟩)
abbrev s_NoTalk___init__ : Stmt := inClass (topS 2) 0
theorem sc_NoTalk___init__ : FnScope ["self", "why"] ["self", "why"] (defScope s_NoTalk___init__) := ⟨rfl, rfl, rfl, by decide +kernel, rfl, by decide +kernel, by decide +kernel⟩
abbrev s_Unchained___init__ : Stmt := inClass (topS 3) 0
theorem sc_Unchained___init__ : FnScope ["self", "one", "other"] ["self", "one", "other"] (defScope s_Unchained___init__) := ⟨rfl, rfl, rfl, by decide +kernel, rfl, by decide +kernel, by decide +kernel⟩
abbrev s_NoPlain___init__ : Stmt := inClass (topS 6) 0
theorem sc_NoPlain___init__ : FnScope ["self", "state"] ["self", "state"] (defScope s_NoPlain___init__) := ⟨rfl, rfl, rfl, by decide +kernel, rfl, by decide +kernel, by decide +kernel⟩
abbrev s_NoPart___init__ : Stmt := inClass (topS 7) 0
theorem sc_NoPart___init__ : FnScope ["self", "hand"] ["self", "hand"] (defScope s_NoPart___init__) := ⟨rfl, rfl, rfl, by decide +kernel, rfl, by decide +kernel, by decide +kernel⟩
abbrev s_NoProgram___init__ : Stmt := inClass (topS 10) 0
theorem sc_NoProgram___init__ : FnScope ["self", "row"] ["self", "row"] (defScope s_NoProgram___init__) := ⟨rfl, rfl, rfl, by decide +kernel, rfl, by decide +kernel, by decide +kernel⟩
abbrev s_Wrong___init__ : Stmt := inClass (topS 11) 0
theorem sc_Wrong___init__ : FnScope ["self", "exchange", "blamed", "wanted"] ["self", "exchange", "blamed", "wanted"] (defScope s_Wrong___init__) := ⟨rfl, rfl, rfl, by decide +kernel, rfl, by decide +kernel, by decide +kernel⟩
abbrev s_Taken___init__ : Stmt := inClass (topS 12) 0
theorem sc_Taken___init__ : FnScope ["self", "name"] ["self", "name"] (defScope s_Taken___init__) := ⟨rfl, rfl, rfl, by decide +kernel, rfl, by decide +kernel, by decide +kernel⟩
abbrev s_NoHand___init__ : Stmt := inClass (topS 18) 0
theorem sc_NoHand___init__ : FnScope ["self", "hand"] ["self", "hand"] (defScope s_NoHand___init__) := ⟨rfl, rfl, rfl, by decide +kernel, rfl, by decide +kernel, by decide +kernel⟩
abbrev s_NoName___init__ : Stmt := inClass (topS 19) 0
theorem sc_NoName___init__ : FnScope ["self", "name"] ["self", "name"] (defScope s_NoName___init__) := ⟨rfl, rfl, rfl, by decide +kernel, rfl, by decide +kernel, by decide +kernel⟩
abbrev s_NoState___init__ : Stmt := inClass (topS 20) 0
theorem sc_NoState___init__ : FnScope ["self", "state"] ["self", "state"] (defScope s_NoState___init__) := ⟨rfl, rfl, rfl, by decide +kernel, rfl, by decide +kernel, by decide +kernel⟩
abbrev s_law_mixed : Stmt := topS 22
theorem sc_law_mixed : FnScope ["_law_cell", "_law_k", "_law_number"] ["_law_cell", "_law_k"] (defScope s_law_mixed) := ⟨rfl, rfl, rfl, by decide +kernel, rfl, by decide +kernel, by decide +kernel⟩
abbrev s_law_purse : Stmt := topS 23
theorem sc_law_purse : FnScope ["_law_script", "_law_at", "_law_cell"] ["_law_script", "_law_at"] (defScope s_law_purse) := ⟨rfl, rfl, rfl, by decide +kernel, rfl, by decide +kernel, by decide +kernel⟩
abbrev s_law_draw : Stmt := topS 24
theorem sc_law_draw : FnScope ["_law_purse_here", "_law_out_of", "_law_drawn", "_law_number", "_law_k"] ["_law_purse_here", "_law_out_of"] (defScope s_law_draw) := ⟨rfl, rfl, rfl, by decide +kernel, rfl, by decide +kernel, by decide +kernel⟩
abbrev s_law_sorts : Stmt := topS 25
theorem sc_law_sorts : FnScope ["_law_it", "_law_found"] ["_law_it"] (defScope s_law_sorts) := ⟨rfl, rfl, rfl, by decide +kernel, rfl, by decide +kernel, by decide +kernel⟩
abbrev s_law_kinds : Stmt := topS 26
theorem sc_law_kinds : FnScope ["_law_it", "_law_found"] ["_law_it"] (defScope s_law_kinds) := ⟨rfl, rfl, rfl, by decide +kernel, rfl, by decide +kernel, by decide +kernel⟩
abbrev s_law_row_right : Stmt := topS 27
theorem sc_law_row_right : FnScope ["_law_some", "_law_k", "_law_it", "_law_kinds_here", "_law_j"] ["_law_some"] (defScope s_law_row_right) := ⟨rfl, rfl, rfl, by decide +kernel, rfl, by decide +kernel, by decide +kernel⟩
abbrev s_law_fields : Stmt := topS 28
theorem sc_law_fields : FnScope ["_law_some", "_law_found"] ["_law_some"] (defScope s_law_fields) := ⟨rfl, rfl, rfl, by decide +kernel, rfl, by decide +kernel, by decide +kernel⟩
abbrev s_law : Stmt := topS 29
theorem sc_law : FnScope ["_law_script", "_law_purse_here", "_law_text", "_law_far", "_law_act", "_law_lot", "_law_bare", "_law_nothing", "_law_plain", "_law_told", "_law_right"] ["_law_script"] (defScope s_law) := ⟨rfl, rfl, rfl, by decide +kernel, rfl, by decide +kernel, by decide +kernel⟩
structure Top (K : PySem.W.Frag) (mg : Str → Option Value) where
  C_TalkError : Addr
  g_TalkError : mg "TalkError" = some (.ref C_TalkError)
  x_TalkError : XC K C_TalkError "ValueError" "ValueError.__init__"
  i_TalkError : PySem.W.findIn K (.ref C_TalkError) "__init__" = some (some (.builtin "ValueError.__init__"))
  rd_TalkError : PySem.W.readsIn K C_TalkError (.type "type") = true
  gc_TalkError : PySem.W.specialIn K (.ref C_TalkError) "__getattribute__" = some (some (.builtin "type.__getattribute__"))
  v_TalkError : PySem.W.findCls K (.ref C_TalkError) (.type "type") "__init__" = some (.val (.builtin "ValueError.__init__"))
  C_NoTalk : Addr
  g_NoTalk : mg "NoTalk" = some (.ref C_NoTalk)
  x_NoTalk : XC K C_NoTalk "ValueError" "ValueError.__init__"
  a_NoTalk___init__ : Addr
  fd_NoTalk___init__ : FuncData
  F_NoTalk___init__ : FunD K "__init__" "NoTalk.__init__" (defArgs s_NoTalk___init__) (defBody s_NoTalk___init__) (defScope s_NoTalk___init__) [V.str ""] [] a_NoTalk___init__ fd_NoTalk___init__
  i_NoTalk : PySem.W.findIn K (.ref C_NoTalk) "__init__" = some (some (.ref a_NoTalk___init__))
  t_NoTalk : PySem.W.typeIn K (.ref a_NoTalk___init__) = some (.type "function")
  f_NoTalk : ∀ n ∈ [("why" : Str)], PySem.W.findIn K (.ref C_NoTalk) n = some none
  C_Unchained : Addr
  g_Unchained : mg "Unchained" = some (.ref C_Unchained)
  x_Unchained : XC K C_Unchained "ValueError" "ValueError.__init__"
  a_Unchained___init__ : Addr
  fd_Unchained___init__ : FuncData
  F_Unchained___init__ : FunD K "__init__" "Unchained.__init__" (defArgs s_Unchained___init__) (defBody s_Unchained___init__) (defScope s_Unchained___init__) [V.non, V.non] [] a_Unchained___init__ fd_Unchained___init__
  i_Unchained : PySem.W.findIn K (.ref C_Unchained) "__init__" = some (some (.ref a_Unchained___init__))
  t_Unchained : PySem.W.typeIn K (.ref a_Unchained___init__) = some (.type "function")
  f_Unchained : ∀ n ∈ [("one" : Str), ("other" : Str)], PySem.W.findIn K (.ref C_Unchained) n = some none
  C_NoMachine : Addr
  g_NoMachine : mg "NoMachine" = some (.ref C_NoMachine)
  x_NoMachine : XC K C_NoMachine "ValueError" "ValueError.__init__"
  i_NoMachine : PySem.W.findIn K (.ref C_NoMachine) "__init__" = some (some (.builtin "ValueError.__init__"))
  C_Unclean : Addr
  g_Unclean : mg "Unclean" = some (.ref C_Unclean)
  x_Unclean : XC K C_Unclean "ValueError" "ValueError.__init__"
  i_Unclean : PySem.W.findIn K (.ref C_Unclean) "__init__" = some (some (.builtin "ValueError.__init__"))
  C_NoPlain : Addr
  g_NoPlain : mg "NoPlain" = some (.ref C_NoPlain)
  x_NoPlain : XC K C_NoPlain "ValueError" "ValueError.__init__"
  a_NoPlain___init__ : Addr
  fd_NoPlain___init__ : FuncData
  F_NoPlain___init__ : FunD K "__init__" "NoPlain.__init__" (defArgs s_NoPlain___init__) (defBody s_NoPlain___init__) (defScope s_NoPlain___init__) [V.non] [] a_NoPlain___init__ fd_NoPlain___init__
  i_NoPlain : PySem.W.findIn K (.ref C_NoPlain) "__init__" = some (some (.ref a_NoPlain___init__))
  t_NoPlain : PySem.W.typeIn K (.ref a_NoPlain___init__) = some (.type "function")
  f_NoPlain : ∀ n ∈ [("state" : Str)], PySem.W.findIn K (.ref C_NoPlain) n = some none
  C_NoPart : Addr
  g_NoPart : mg "NoPart" = some (.ref C_NoPart)
  x_NoPart : XC K C_NoPart "ValueError" "ValueError.__init__"
  a_NoPart___init__ : Addr
  fd_NoPart___init__ : FuncData
  F_NoPart___init__ : FunD K "__init__" "NoPart.__init__" (defArgs s_NoPart___init__) (defBody s_NoPart___init__) (defScope s_NoPart___init__) [V.str ""] [] a_NoPart___init__ fd_NoPart___init__
  i_NoPart : PySem.W.findIn K (.ref C_NoPart) "__init__" = some (some (.ref a_NoPart___init__))
  t_NoPart : PySem.W.typeIn K (.ref a_NoPart___init__) = some (.type "function")
  f_NoPart : ∀ n ∈ [("hand" : Str)], PySem.W.findIn K (.ref C_NoPart) n = some none
  C_NoLot : Addr
  g_NoLot : mg "NoLot" = some (.ref C_NoLot)
  x_NoLot : XC K C_NoLot "ValueError" "ValueError.__init__"
  i_NoLot : PySem.W.findIn K (.ref C_NoLot) "__init__" = some (some (.builtin "ValueError.__init__"))
  C_TooMany : Addr
  g_TooMany : mg "TooMany" = some (.ref C_TooMany)
  x_TooMany : XC K C_TooMany "ValueError" "ValueError.__init__"
  i_TooMany : PySem.W.findIn K (.ref C_TooMany) "__init__" = some (some (.builtin "ValueError.__init__"))
  C_NoProgram : Addr
  g_NoProgram : mg "NoProgram" = some (.ref C_NoProgram)
  x_NoProgram : XC K C_NoProgram "ValueError" "ValueError.__init__"
  a_NoProgram___init__ : Addr
  fd_NoProgram___init__ : FuncData
  F_NoProgram___init__ : FunD K "__init__" "NoProgram.__init__" (defArgs s_NoProgram___init__) (defBody s_NoProgram___init__) (defScope s_NoProgram___init__) [V.non] [] a_NoProgram___init__ fd_NoProgram___init__
  i_NoProgram : PySem.W.findIn K (.ref C_NoProgram) "__init__" = some (some (.ref a_NoProgram___init__))
  t_NoProgram : PySem.W.typeIn K (.ref a_NoProgram___init__) = some (.type "function")
  f_NoProgram : ∀ n ∈ [("row" : Str)], PySem.W.findIn K (.ref C_NoProgram) n = some none
  C_Wrong : Addr
  g_Wrong : mg "Wrong" = some (.ref C_Wrong)
  x_Wrong : XC K C_Wrong "ValueError" "ValueError.__init__"
  a_Wrong___init__ : Addr
  fd_Wrong___init__ : FuncData
  e_Wrong_1 : Addr
  u_Wrong_1 : ∀ H, SqT K H e_Wrong_1 []
  e_Wrong_2 : Addr
  u_Wrong_2 : ∀ H, SqT K H e_Wrong_2 []
  F_Wrong___init__ : FunD K "__init__" "Wrong.__init__" (defArgs s_Wrong___init__) (defBody s_Wrong___init__) (defScope s_Wrong___init__) [V.non, V.ref e_Wrong_1, V.ref e_Wrong_2] [] a_Wrong___init__ fd_Wrong___init__
  i_Wrong : PySem.W.findIn K (.ref C_Wrong) "__init__" = some (some (.ref a_Wrong___init__))
  t_Wrong : PySem.W.typeIn K (.ref a_Wrong___init__) = some (.type "function")
  f_Wrong : ∀ n ∈ [("exchange" : Str), ("blamed" : Str), ("wanted" : Str)], PySem.W.findIn K (.ref C_Wrong) n = some none
  C_Taken : Addr
  g_Taken : mg "Taken" = some (.ref C_Taken)
  x_Taken : XC K C_Taken "ValueError" "ValueError.__init__"
  a_Taken___init__ : Addr
  fd_Taken___init__ : FuncData
  F_Taken___init__ : FunD K "__init__" "Taken.__init__" (defArgs s_Taken___init__) (defBody s_Taken___init__) (defScope s_Taken___init__) [V.str ""] [] a_Taken___init__ fd_Taken___init__
  i_Taken : PySem.W.findIn K (.ref C_Taken) "__init__" = some (some (.ref a_Taken___init__))
  t_Taken : PySem.W.typeIn K (.ref a_Taken___init__) = some (.type "function")
  f_Taken : ∀ n ∈ [("name" : Str)], PySem.W.findIn K (.ref C_Taken) n = some none
  C_Going : Addr
  g_Going : mg "Going" = some (.ref C_Going)
  x_Going : XC K C_Going "ValueError" "ValueError.__init__"
  i_Going : PySem.W.findIn K (.ref C_Going) "__init__" = some (some (.builtin "ValueError.__init__"))
  C_NoDeed : Addr
  g_NoDeed : mg "NoDeed" = some (.ref C_NoDeed)
  x_NoDeed : XC K C_NoDeed "ValueError" "ValueError.__init__"
  i_NoDeed : PySem.W.findIn K (.ref C_NoDeed) "__init__" = some (some (.builtin "ValueError.__init__"))
  C_Full : Addr
  g_Full : mg "Full" = some (.ref C_Full)
  x_Full : XC K C_Full "ValueError" "ValueError.__init__"
  i_Full : PySem.W.findIn K (.ref C_Full) "__init__" = some (some (.builtin "ValueError.__init__"))
  C_NoText : Addr
  g_NoText : mg "NoText" = some (.ref C_NoText)
  x_NoText : XC K C_NoText "ValueError" "ValueError.__init__"
  i_NoText : PySem.W.findIn K (.ref C_NoText) "__init__" = some (some (.builtin "ValueError.__init__"))
  C_NoLine : Addr
  g_NoLine : mg "NoLine" = some (.ref C_NoLine)
  x_NoLine : XC K C_NoLine "ValueError" "ValueError.__init__"
  i_NoLine : PySem.W.findIn K (.ref C_NoLine) "__init__" = some (some (.builtin "ValueError.__init__"))
  C_NoHand : Addr
  g_NoHand : mg "NoHand" = some (.ref C_NoHand)
  x_NoHand : XC K C_NoHand "KeyError" "KeyError.__init__"
  a_NoHand___init__ : Addr
  fd_NoHand___init__ : FuncData
  F_NoHand___init__ : FunD K "__init__" "NoHand.__init__" (defArgs s_NoHand___init__) (defBody s_NoHand___init__) (defScope s_NoHand___init__) [V.str ""] [] a_NoHand___init__ fd_NoHand___init__
  i_NoHand : PySem.W.findIn K (.ref C_NoHand) "__init__" = some (some (.ref a_NoHand___init__))
  t_NoHand : PySem.W.typeIn K (.ref a_NoHand___init__) = some (.type "function")
  f_NoHand : ∀ n ∈ [("hand" : Str)], PySem.W.findIn K (.ref C_NoHand) n = some none
  C_NoName : Addr
  g_NoName : mg "NoName" = some (.ref C_NoName)
  x_NoName : XC K C_NoName "KeyError" "KeyError.__init__"
  a_NoName___init__ : Addr
  fd_NoName___init__ : FuncData
  F_NoName___init__ : FunD K "__init__" "NoName.__init__" (defArgs s_NoName___init__) (defBody s_NoName___init__) (defScope s_NoName___init__) [V.str ""] [] a_NoName___init__ fd_NoName___init__
  i_NoName : PySem.W.findIn K (.ref C_NoName) "__init__" = some (some (.ref a_NoName___init__))
  t_NoName : PySem.W.typeIn K (.ref a_NoName___init__) = some (.type "function")
  f_NoName : ∀ n ∈ [("name" : Str)], PySem.W.findIn K (.ref C_NoName) n = some none
  C_NoState : Addr
  g_NoState : mg "NoState" = some (.ref C_NoState)
  x_NoState : XC K C_NoState "IndexError" "IndexError.__init__"
  a_NoState___init__ : Addr
  fd_NoState___init__ : FuncData
  F_NoState___init__ : FunD K "__init__" "NoState.__init__" (defArgs s_NoState___init__) (defBody s_NoState___init__) (defScope s_NoState___init__) [V.non] [] a_NoState___init__ fd_NoState___init__
  i_NoState : PySem.W.findIn K (.ref C_NoState) "__init__" = some (some (.ref a_NoState___init__))
  t_NoState : PySem.W.typeIn K (.ref a_NoState___init__) = some (.type "function")
  f_NoState : ∀ n ∈ [("state" : Str)], PySem.W.findIn K (.ref C_NoState) n = some none
  v_IndexError : PySem.W.findCls K (.type "IndexError") (.type "type") "__init__" = some (.val (.builtin "IndexError.__init__"))
  v_KeyError : PySem.W.findCls K (.type "KeyError") (.type "type") "__init__" = some (.val (.builtin "KeyError.__init__"))
  kt : ∀ (i j : Nat) (c : Addr) (u : Value), ([C_NoMachine, C_Unclean, C_NoLot, C_TooMany, C_Going, C_NoDeed, C_Full, C_NoText, C_NoLine, C_NoTalk, C_Unchained, C_NoPlain, C_NoPart, C_NoProgram, C_Wrong, C_Taken, C_NoHand, C_NoName, C_NoState, C_TalkError] : List Addr)[i]? = some c → ([.ref C_NoMachine, .ref C_Unclean, .ref C_NoLot, .ref C_TooMany, .ref C_Going, .ref C_NoDeed, .ref C_Full, .ref C_NoText, .ref C_NoLine, .ref C_NoTalk, .ref C_Unchained, .ref C_NoPlain, .ref C_NoPart, .ref C_NoProgram, .ref C_Wrong, .ref C_Taken, .ref C_NoHand, .ref C_NoName, .ref C_NoState, .ref C_TalkError, .type "ValueError", .type "KeyError", .type "IndexError"] : List Value)[j]? = some u → PySem.W.kitOne K (.ref c) u = some (tabX i j)
  a_law_mixed : Addr
  fd_law_mixed : FuncData
  F_law_mixed : Fun K "_law_mixed" "_law_mixed" s_law_mixed a_law_mixed fd_law_mixed
  b_law_mixed : Binds K fd_law_mixed ["_law_cell", "_law_k"] []
  g_law_mixed : mg "_law_mixed" = some (.ref a_law_mixed)
  a_law_purse : Addr
  fd_law_purse : FuncData
  F_law_purse : Fun K "_law_purse" "_law_purse" s_law_purse a_law_purse fd_law_purse
  b_law_purse : Binds K fd_law_purse ["_law_script", "_law_at"] []
  g_law_purse : mg "_law_purse" = some (.ref a_law_purse)
  a_law_draw : Addr
  fd_law_draw : FuncData
  F_law_draw : Fun K "_law_draw" "_law_draw" s_law_draw a_law_draw fd_law_draw
  b_law_draw : Binds K fd_law_draw ["_law_purse_here", "_law_out_of"] []
  g_law_draw : mg "_law_draw" = some (.ref a_law_draw)
  a_law_sorts : Addr
  fd_law_sorts : FuncData
  F_law_sorts : Fun K "_law_sorts" "_law_sorts" s_law_sorts a_law_sorts fd_law_sorts
  b_law_sorts : Binds K fd_law_sorts ["_law_it"] []
  g_law_sorts : mg "_law_sorts" = some (.ref a_law_sorts)
  a_law_kinds : Addr
  fd_law_kinds : FuncData
  F_law_kinds : Fun K "_law_kinds" "_law_kinds" s_law_kinds a_law_kinds fd_law_kinds
  b_law_kinds : Binds K fd_law_kinds ["_law_it"] []
  g_law_kinds : mg "_law_kinds" = some (.ref a_law_kinds)
  a_law_row_right : Addr
  fd_law_row_right : FuncData
  F_law_row_right : Fun K "_law_row_right" "_law_row_right" s_law_row_right a_law_row_right fd_law_row_right
  b_law_row_right : Binds K fd_law_row_right ["_law_some"] []
  g_law_row_right : mg "_law_row_right" = some (.ref a_law_row_right)
  a_law_fields : Addr
  fd_law_fields : FuncData
  F_law_fields : Fun K "_law_fields" "_law_fields" s_law_fields a_law_fields fd_law_fields
  b_law_fields : Binds K fd_law_fields ["_law_some"] []
  g_law_fields : mg "_law_fields" = some (.ref a_law_fields)
  a_law : Addr
  fd_law : FuncData
  F_law : Fun K "law" "law" s_law a_law fd_law
  b_law : Binds K fd_law ["_law_script"] []
  g_law : mg "law" = some (.ref a_law)
  z_IndexError : mg "IndexError" = none
  z_KeyError : mg "KeyError" = none
  z_ValueError : mg "ValueError" = none
  z_enumerate : mg "enumerate" = none
  z_isinstance : mg "isinstance" = none
  z_max : mg "max" = none
  z_range : mg "range" = none
  z_sum : mg "sum" = none
/-! ### the purse: words and mathematics -/
def Purse (H : Hp) (q : Addr) (c : Int) : Prop := ∃ a b : Int, H q = some (.lst [.int a, .int b, .int c]) ∧ 0 ≤ a ∧ 0 ≤ b ∧ b < 2147483647 ∧ 0 ≤ c
def spAt (K : PySem.W.Frag) : Sp := fun vs H Q _ => ∃ (a : Addr) (ns : List Int) (k : Int), vs = [.ref a, .int k] ∧ SqL K H a (ns.map V.int) ∧ 0 ≤ k ∧ ∀ r, Q (.int r) H
def spMixed : Sp := fun vs H Q _ => ∃ a k : Int, vs = [.int a, .int k] ∧ 0 ≤ a ∧ a < 2147483647 ∧ 0 ≤ k ∧ k ≤ 1000000 ∧ ∀ r : Int, 0 ≤ r → r < 2147483587 → Q (.int r) H
def spPurse (K : PySem.W.Frag) : Sp := fun vs H Q _ => ∃ (a : Addr) (ns : List Int) (k : Int), vs = [.ref a, .int k] ∧ SqL K H a (ns.map V.int) ∧ 0 ≤ k ∧ k ≤ 63 ∧ ∀ q H2, H q = none → Same H H2 → Purse H2 q (1000 * k) → Q (.ref q) H2
def spDraw : Sp := fun vs H Q _ => ∃ p n c, vs = [.ref p, .int n] ∧ 1 ≤ n ∧ n < 1073741824 ∧ Purse H p c ∧ c + 2 ≤ 1000000 ∧
  ∀ (r : Int) H2 c', 0 ≤ r → r < n → (∀ x o, H x = some o → x ≠ p → H2 x = some o) → (∀ x, H2 x = none → H x = none) → Purse H2 p c' → c ≤ c' → c' ≤ c + 2 → Q (.int r) H2
def spOrder : Sp := fun vs H Q _ => ∃ F p v1 ds c, vs = [.ref p, v1] ∧ Same F H ∧ F p = none ∧ Purse H p c ∧ Dq F v1 (.list ds) ∧ PyData.plainAll ds = true ∧ (ds.length ≤ 1000 ∧ ∀ d ∈ ds, d.depth ≤ 58) ∧ c + 2 * ds.length ≤ 1000000 ∧
  ∀ f vf H2 c' ds', ds'.Perm ds → Fr (fun a => a = p) F H F H2 → H f = none → H2 f = some (.lst vf) → DqAll F vf ds' → Purse H2 p c' → c ≤ c' → c' ≤ c + 2 * ds.length → Q (.ref f) H2
theorem pow18 : CPowW 10 18 := ⟨by decide, by decide⟩
theorem pow60 : CPowW 10 60 := ⟨by decide, by decide⟩
theorem pow600 : CPowW (10 ^ (60 : Int).toNat) 10 := ⟨by decide, by decide +kernel⟩
theorem pow_pos600 : (0 : Int) < (10 ^ (60 : Int).toNat) ^ (10 : Int).toNat := by decide +kernel
theorem plainAll_iff : ∀ {ds : List PyData}, PyData.plainAll ds = true ↔ ∀ d ∈ ds, d.plain = true
  | [] => ⟨fun _ _ h => (nomatch h), fun _ => rfl⟩
  | d :: ds => by
    rw [PyData.plainAll, Bool.and_eq_true, plainAll_iff]
    exact ⟨fun h x hx => (List.mem_cons.mp hx).elim (fun z => z ▸ h.1) (fun z => h.2 x z), fun h => ⟨h d (List.mem_cons_self ..), fun x hx => h x (List.mem_cons_of_mem _ hx)⟩⟩
theorem depthAll_le {n : Nat} : ∀ {ds : List PyData}, (∀ d ∈ ds, d.depth ≤ n) → PyData.depthAll ds ≤ n
  | [], _ => Nat.zero_le _
  | d :: ds, h => by
    rw [PyData.depthAll]
    exact Nat.max_le.mpr ⟨h d (List.mem_cons_self ..), depthAll_le fun x hx => h x (List.mem_cons_of_mem _ hx)⟩
theorem seqIx {j n : Nat} (h : j < n) : seqIndex? (j : Int) n = some j := by
  unfold seqIndex?
  have : ¬ ((j : Int) < 0) := by omega
  simp only [this, if_false]
  have h2 : (decide (0 ≤ (j : Int)) && decide ((j : Int) < (n : Int))) = true := by
    rw [Bool.and_eq_true]
    exact ⟨decide_eq_true (by omega), decide_eq_true (by omega)⟩
  rw [if_pos h2]
  rfl
theorem perm_erase {α : Type} : ∀ {l : List α} {j : Nat} {d : α}, l[j]? = some d → ([d] ++ l.eraseIdx j).Perm l
  | [], _, _, h => by simp at h
  | a :: l, 0, d, h => by
    have : a = d := by simpa using h
    subst this
    exact List.Perm.refl _
  | a :: l, j + 1, d, h => by
    have ih := perm_erase (l := l) (j := j) (d := d) (by simpa using h)
    show (d :: a :: l.eraseIdx j).Perm (a :: l)
    exact (List.Perm.swap a d _).trans (List.Perm.cons a ih)
def OrderW (F H : Hp) (p x1 r f : Addr) (ds : List PyData) (c : Int) (m : Nat) (σ : L2.St) (H' : Hp) : Prop := ∃ vr vf dr df c', σ = [some (.ref p), some (.ref x1), some (.ref r), some (.ref f)] ∧ Fr (fun a => a = p) F H F H' ∧ H' r = some (.lst vr) ∧ H' f = some (.lst vf) ∧
  DqAll F vr dr ∧ DqAll F vf df ∧ (df ++ dr).Perm ds ∧ Purse H' p c' ∧ c ≤ c' ∧ c' + 2 * dr.length ≤ c + 2 * ds.length ∧ m = dr.length

theorem Purse.keep {H H2 : Hp} {p : Addr} {c : Int} (h : Purse H p c) (k : ∀ o, H p = some o → H2 p = some o) : Purse H2 p c := by
  obtain ⟨a, b, e, z⟩ := h
  exact ⟨a, b, k _ e, z⟩
theorem Purse.ne {H : Hp} {p x : Addr} {c : Int} (h : Purse H p c) (n : H x = none) : p ≠ x := by
  obtain ⟨a, b, e, z⟩ := h
  exact ne_of_none e n
theorem Purse.new {H : Hp} {p x : Addr} {c : Int} {o : HO} (h : Purse H p c) (n : H x = none) : Purse (upd H x o) p c := h.keep fun o e => by rw [upd_ne (ne_of_none e n)]; exact e

section
variable {P : Program} {w : World} {K : PySem.W.Frag} {mg : Str → Option Value} {base : Heap}
/-! ### the __init__s -/
theorem ok_NoTalk___init__ (T : Top K mg) : FnOk P w K mg base CX0 1 T.a_NoTalk___init__ T.fd_NoTalk___init__ ["self", "why"] (spX K "ValueError.__init__" ["why"]) := by
  refine T.F_NoTalk___init__.ok sc_NoTalk___init__ (fun vs H Q E h => ?_) (fun cdv A outer s H vs Q E hr h => ?_)
  · obtain ⟨_, _, ys, rfl, _, _, _, hl, _⟩ := h
    show ys.length + 1 = _
    rw [hl]
    rfl
  · obtain ⟨a, C, ys, rfl, ⟨B, Tc⟩, tk, ea, hl, q⟩ := h
    match ys, hl with
    | [y0], _ =>
      refine ⟨_, (pss_cons (ps_expr (pe_xinitC (by rfl) T.g_TalkError T.rd_TalkError T.gc_TalkError T.v_TalkError (by decide +kernel) (pa_cons (pv 0) (pa_cons pe_str pa_nil))))
 (pss_one (ps_xst (pv 0) (pv 1)))), ?_⟩
      exact init1 rfl rfl Tc ea (tk _ (by simp))  q
theorem ok_Unchained___init__ (T : Top K mg) : FnOk P w K mg base CX0 1 T.a_Unchained___init__ T.fd_Unchained___init__ ["self", "one", "other"] (spX K "ValueError.__init__" ["one", "other"]) := by
  refine T.F_Unchained___init__.ok sc_Unchained___init__ (fun vs H Q E h => ?_) (fun cdv A outer s H vs Q E hr h => ?_)
  · obtain ⟨_, _, ys, rfl, _, _, _, hl, _⟩ := h
    show ys.length + 1 = _
    rw [hl]
    rfl
  · obtain ⟨a, C, ys, rfl, ⟨B, Tc⟩, tk, ea, hl, q⟩ := h
    match ys, hl with
    | [y0, y1], _ =>
      refine ⟨_, (pss_cons (ps_expr (pe_xinitC (by rfl) T.g_TalkError T.rd_TalkError T.gc_TalkError T.v_TalkError (by decide +kernel) (pa_cons (pv 0) (pa_cons pe_str pa_nil))))
 (pss_cons (ps_xst (pv 0) (pv 1))
 (pss_one (ps_xst (pv 0) (pv 2))))), ?_⟩
      exact init2 rfl rfl rfl Tc ea (tk _ (by simp)) (tk _ (by simp)) (by decide) q
theorem ok_NoPlain___init__ (T : Top K mg) : FnOk P w K mg base CX0 1 T.a_NoPlain___init__ T.fd_NoPlain___init__ ["self", "state"] (spX K "ValueError.__init__" ["state"]) := by
  refine T.F_NoPlain___init__.ok sc_NoPlain___init__ (fun vs H Q E h => ?_) (fun cdv A outer s H vs Q E hr h => ?_)
  · obtain ⟨_, _, ys, rfl, _, _, _, hl, _⟩ := h
    show ys.length + 1 = _
    rw [hl]
    rfl
  · obtain ⟨a, C, ys, rfl, ⟨B, Tc⟩, tk, ea, hl, q⟩ := h
    match ys, hl with
    | [y0], _ =>
      refine ⟨_, (pss_cons (ps_expr (pe_xinitC (by rfl) T.g_TalkError T.rd_TalkError T.gc_TalkError T.v_TalkError (by decide +kernel) (pa_cons (pv 0) (pa_cons pe_str pa_nil))))
 (pss_one (ps_xst (pv 0) (pv 1)))), ?_⟩
      exact init1 rfl rfl Tc ea (tk _ (by simp))  q
theorem ok_NoPart___init__ (T : Top K mg) : FnOk P w K mg base CX0 1 T.a_NoPart___init__ T.fd_NoPart___init__ ["self", "hand"] (spX K "ValueError.__init__" ["hand"]) := by
  refine T.F_NoPart___init__.ok sc_NoPart___init__ (fun vs H Q E h => ?_) (fun cdv A outer s H vs Q E hr h => ?_)
  · obtain ⟨_, _, ys, rfl, _, _, _, hl, _⟩ := h
    show ys.length + 1 = _
    rw [hl]
    rfl
  · obtain ⟨a, C, ys, rfl, ⟨B, Tc⟩, tk, ea, hl, q⟩ := h
    match ys, hl with
    | [y0], _ =>
      refine ⟨_, (pss_cons (ps_expr (pe_xinitC (by rfl) T.g_TalkError T.rd_TalkError T.gc_TalkError T.v_TalkError (by decide +kernel) (pa_cons (pv 0) (pa_cons pe_str pa_nil))))
 (pss_one (ps_xst (pv 0) (pv 1)))), ?_⟩
      exact init1 rfl rfl Tc ea (tk _ (by simp))  q
theorem ok_NoProgram___init__ (T : Top K mg) : FnOk P w K mg base CX0 1 T.a_NoProgram___init__ T.fd_NoProgram___init__ ["self", "row"] (spX K "ValueError.__init__" ["row"]) := by
  refine T.F_NoProgram___init__.ok sc_NoProgram___init__ (fun vs H Q E h => ?_) (fun cdv A outer s H vs Q E hr h => ?_)
  · obtain ⟨_, _, ys, rfl, _, _, _, hl, _⟩ := h
    show ys.length + 1 = _
    rw [hl]
    rfl
  · obtain ⟨a, C, ys, rfl, ⟨B, Tc⟩, tk, ea, hl, q⟩ := h
    match ys, hl with
    | [y0], _ =>
      refine ⟨_, (pss_cons (ps_expr (pe_xinitC (by rfl) T.g_TalkError T.rd_TalkError T.gc_TalkError T.v_TalkError (by decide +kernel) (pa_cons (pv 0) (pa_cons pe_str pa_nil))))
 (pss_one (ps_xst (pv 0) (pv 1)))), ?_⟩
      exact init1 rfl rfl Tc ea (tk _ (by simp))  q
theorem ok_Wrong___init__ (T : Top K mg) : FnOk P w K mg base CX0 1 T.a_Wrong___init__ T.fd_Wrong___init__ ["self", "exchange", "blamed", "wanted"] (spX K "ValueError.__init__" ["exchange", "blamed", "wanted"]) := by
  refine T.F_Wrong___init__.ok sc_Wrong___init__ (fun vs H Q E h => ?_) (fun cdv A outer s H vs Q E hr h => ?_)
  · obtain ⟨_, _, ys, rfl, _, _, _, hl, _⟩ := h
    show ys.length + 1 = _
    rw [hl]
    rfl
  · obtain ⟨a, C, ys, rfl, ⟨B, Tc⟩, tk, ea, hl, q⟩ := h
    match ys, hl with
    | [y0, y1, y2], _ =>
      refine ⟨_, (pss_cons (ps_expr (pe_xinitC (by rfl) T.g_TalkError T.rd_TalkError T.gc_TalkError T.v_TalkError (by decide +kernel) (pa_cons (pv 0) (pa_cons pe_str pa_nil))))
 (pss_cons (ps_xst (pv 0) (pv 1))
 (pss_cons (ps_xst (pv 0) (pv 2))
 (pss_one (ps_xst (pv 0) (pv 3)))))), ?_⟩
      exact init3 rfl rfl rfl rfl Tc ea (tk _ (by simp)) (tk _ (by simp)) (tk _ (by simp)) (by decide) (by decide) (by decide) q
theorem ok_Taken___init__ (T : Top K mg) : FnOk P w K mg base CX0 1 T.a_Taken___init__ T.fd_Taken___init__ ["self", "name"] (spX K "ValueError.__init__" ["name"]) := by
  refine T.F_Taken___init__.ok sc_Taken___init__ (fun vs H Q E h => ?_) (fun cdv A outer s H vs Q E hr h => ?_)
  · obtain ⟨_, _, ys, rfl, _, _, _, hl, _⟩ := h
    show ys.length + 1 = _
    rw [hl]
    rfl
  · obtain ⟨a, C, ys, rfl, ⟨B, Tc⟩, tk, ea, hl, q⟩ := h
    match ys, hl with
    | [y0], _ =>
      refine ⟨_, (pss_cons (ps_expr (pe_xinitC (by rfl) T.g_TalkError T.rd_TalkError T.gc_TalkError T.v_TalkError (by decide +kernel) (pa_cons (pv 0) (pa_cons pe_str pa_nil))))
 (pss_one (ps_xst (pv 0) (pv 1)))), ?_⟩
      exact init1 rfl rfl Tc ea (tk _ (by simp))  q
theorem ok_NoHand___init__ (T : Top K mg) : FnOk P w K mg base CX0 1 T.a_NoHand___init__ T.fd_NoHand___init__ ["self", "hand"] (spX K "KeyError.__init__" ["hand"]) := by
  refine T.F_NoHand___init__.ok sc_NoHand___init__ (fun vs H Q E h => ?_) (fun cdv A outer s H vs Q E hr h => ?_)
  · obtain ⟨_, _, ys, rfl, _, _, _, hl, _⟩ := h
    show ys.length + 1 = _
    rw [hl]
    rfl
  · obtain ⟨a, C, ys, rfl, ⟨B, Tc⟩, tk, ea, hl, q⟩ := h
    match ys, hl with
    | [y0], _ =>
      refine ⟨_, (pss_cons (ps_expr (pe_xinitT (by rfl) T.z_KeyError boot_KeyError typ_KeyError stub_KeyError T.v_KeyError (by decide +kernel) (pa_cons (pv 0) (pa_cons pe_str pa_nil))))
 (pss_one (ps_xst (pv 0) (pv 1)))), ?_⟩
      exact init1 rfl rfl Tc ea (tk _ (by simp))  q
theorem ok_NoName___init__ (T : Top K mg) : FnOk P w K mg base CX0 1 T.a_NoName___init__ T.fd_NoName___init__ ["self", "name"] (spX K "KeyError.__init__" ["name"]) := by
  refine T.F_NoName___init__.ok sc_NoName___init__ (fun vs H Q E h => ?_) (fun cdv A outer s H vs Q E hr h => ?_)
  · obtain ⟨_, _, ys, rfl, _, _, _, hl, _⟩ := h
    show ys.length + 1 = _
    rw [hl]
    rfl
  · obtain ⟨a, C, ys, rfl, ⟨B, Tc⟩, tk, ea, hl, q⟩ := h
    match ys, hl with
    | [y0], _ =>
      refine ⟨_, (pss_cons (ps_expr (pe_xinitT (by rfl) T.z_KeyError boot_KeyError typ_KeyError stub_KeyError T.v_KeyError (by decide +kernel) (pa_cons (pv 0) (pa_cons pe_str pa_nil))))
 (pss_one (ps_xst (pv 0) (pv 1)))), ?_⟩
      exact init1 rfl rfl Tc ea (tk _ (by simp))  q
theorem ok_NoState___init__ (T : Top K mg) : FnOk P w K mg base CX0 1 T.a_NoState___init__ T.fd_NoState___init__ ["self", "state"] (spX K "IndexError.__init__" ["state"]) := by
  refine T.F_NoState___init__.ok sc_NoState___init__ (fun vs H Q E h => ?_) (fun cdv A outer s H vs Q E hr h => ?_)
  · obtain ⟨_, _, ys, rfl, _, _, _, hl, _⟩ := h
    show ys.length + 1 = _
    rw [hl]
    rfl
  · obtain ⟨a, C, ys, rfl, ⟨B, Tc⟩, tk, ea, hl, q⟩ := h
    match ys, hl with
    | [y0], _ =>
      refine ⟨_, (pss_cons (ps_expr (pe_xinitT (by rfl) T.z_IndexError boot_IndexError typ_IndexError stub_IndexError T.v_IndexError (by decide +kernel) (pa_cons (pv 0) (pa_cons pe_str pa_nil))))
 (pss_one (ps_xst (pv 0) (pv 1)))), ?_⟩
      exact init1 rfl rfl Tc ea (tk _ (by simp))  q
theorem ok_law_mixed (T : Top K mg) : FnOk P w K mg base CX0 1 T.a_law_mixed T.fd_law_mixed ["_law_cell", "_law_k"] spMixed := by
  refine T.F_law_mixed.ok sc_law_mixed (fun vs H Q E h => ?_) (fun cdv A outer s H vs Q E hr h => ?_)
  · obtain ⟨_, _, rfl, _⟩ := h
    rfl
  · obtain ⟨a, k, rfl, ha, ha2, hk, hk2, q⟩ := h
    refine ⟨_, (pss_cons (ps_set (i := 2) sc_law_mixed.nd rfl (Or.inl rfl) (pe_op op_mod (pe_op op_add (pe_op op_add (pe_op op_add (pe_op op_mul (pv 0) pe_int) (pe_op op_mul (pe_op op_mul pe_int (pv 1)) (pv 1))) (pv 1)) pe_int) pe_int))
 (pss_cons (ps_set (i := 2) sc_law_mixed.nd rfl (Or.inl rfl) (pe_op op_mod (pe_op op_add (pe_op op_mul (pv 2) (pv 2)) pe_int) pe_int))
 (pss_one (ps_ret (pe_op op_mod (pe_op op_mul (pv 2) pe_int) pe_int))))), ?_⟩
    refine ⟨_, rfl, _, _, rfl, rfl, .inl ⟨by omega, by omega⟩, ?_⟩
    refine ⟨_, rfl, _, _, rfl, rfl, .inl ⟨by omega, by omega⟩, _, rfl, _, _, rfl, rfl, .inr ⟨by omega, by omega⟩, _, _, rfl, rfl, _, rfl, _, _, rfl, rfl, _, _, rfl, rfl, _, _, rfl, rfl, (show (0 : Int) < 2147483647 by decide), ?_⟩
    generalize e1 : (a * 1103515245 + 7919 * k * k + k + 1) % 2147483647 = n1
    have b1 : 0 ≤ n1 := by rw [← e1]; exact Int.emod_nonneg _ (by decide)
    have b2 : n1 < 2147483647 := by rw [← e1]; exact Int.emod_lt_of_pos _ (by decide)
    refine ⟨_, rfl, _, rfl, _, _, rfl, rfl, .inl ⟨by omega, by omega⟩, _, _, rfl, rfl, _, _, rfl, rfl, (show (0 : Int) < 2147483629 by decide), ?_⟩
    generalize e2 : (n1 * n1 + 69621) % 2147483629 = n2
    have c1 : 0 ≤ n2 := by rw [← e2]; exact Int.emod_nonneg _ (by decide)
    have c2 : n2 < 2147483629 := by rw [← e2]; exact Int.emod_lt_of_pos _ (by decide)
    refine ⟨_, rfl, _, _, rfl, rfl, .inl ⟨by omega, by omega⟩, _, _, rfl, rfl, (show (0 : Int) < 2147483587 by decide), ?_⟩
    exact q _ (Int.emod_nonneg _ (by decide)) (Int.emod_lt_of_pos _ (by decide))

theorem ok_law_purse (T : Top K mg) : FnOk P w K mg base CX0 1 T.a_law_purse T.fd_law_purse ["_law_script", "_law_at"] (spPurse K) := by
  refine T.F_law_purse.ok sc_law_purse (fun vs H Q E h => ?_) (fun cdv A outer s H vs Q E hr h => ?_)
  · obtain ⟨_, _, _, rfl, _⟩ := h
    rfl
  · obtain ⟨a, ns, k, rfl, hS, hk, hk2, q⟩ := h
    refine ⟨_, (pss_cons (ps_set (i := 2) sc_law_purse.nd rfl (Or.inl rfl) (pe_callB (cr_sum rfl) (by rfl) T.z_sum (by decide +kernel) (pa_cons (pe_slice (sl_listK K rfl) (pv 0) (po_some (pv 1)) (po_some (pe_op op_add (pv 1) pe_int))) pa_nil)))
 (pss_one (ps_ret (pe_lst (pa_cons (pe_op op_mod (pe_callB (call_max2 rfl) (by rfl) T.z_max (by decide +kernel) (pa_cons (pe_op op_sub (pv 2) (pe_op op_powW pe_int pe_int)) (pa_cons pe_int pa_nil))) (pe_op op_powW (pe_op op_powW pe_int pe_int) pe_int)) (pa_cons (pe_op op_mod (pv 2) pe_int) (pa_cons (pe_op op_mul pe_int (pv 1)) pa_nil))))))), ?_⟩
    refine ⟨_, rfl, _, rfl, k, rfl, _, rfl, _, _, rfl, rfl, k + 1, rfl, a, _, rfl, hS, fun p np => ⟨p, (ns.drop (HT.sIx ns.length 0 (some k))).take (HT.sIx ns.length ns.length (some (k + 1)) - HT.sIx ns.length 0 (some k)), rfl, SqL.of (upd_same.trans ?_), ?_⟩⟩
    · unfold cutV
      rw [List.length_map, List.map_take, List.map_drop]
    generalize (List.take _ (List.drop _ ns)).sum = c
    have s1 : Same H (upd H p (.lst (cutV (ns.map V.int) (some k) (some (k + 1))))) := fun b o e => by rw [upd_ne (ne_of_none e np)]; exact e
    have n1 : ∀ x, (upd H p (.lst (cutV (ns.map V.int) (some k) (some (k + 1))))) x = none → H x = none := fun x e => by
      by_cases z : x = p
      · rw [z]; exact np
      · rw [upd_ne z] at e; exact e
    generalize upd H p (.lst (cutV (ns.map V.int) (some k) (some (k + 1)))) = H1 at s1 n1 ⊢
    refine ⟨_, rfl, _, _, rfl, rfl, pow18, _, _, rfl, rfl, _, _, rfl, _, _, rfl, rfl, pow60, _, _, rfl, rfl, pow600, _, _, rfl, rfl, pow_pos600, ?_⟩
    refine ⟨_, rfl, _, _, rfl, rfl, (show (0 : Int) < 2147483647 by decide), _, rfl, _, _, rfl, rfl, .inl ⟨by decide, by decide⟩, (by show 3 ≤ sizeLine; decide), fun p2 np2 => ?_⟩
    exact q p2 _ (n1 _ np2) (fun b o e => by rw [upd_ne (ne_of_none (s1 _ _ e) np2)]; exact s1 _ _ e) ⟨_, _, upd_same, Int.emod_nonneg _ (Int.ne_of_gt pow_pos600), Int.emod_nonneg _ (by decide), Int.emod_lt_of_pos _ (by decide), by omega⟩
theorem ok_law_draw (T : Top K mg) : FnOk P w K mg base CX0 2 T.a_law_draw T.fd_law_draw ["_law_purse_here", "_law_out_of"] spDraw := by
  refine T.F_law_draw.ok sc_law_draw (fun vs H Q E h => ?_) (fun cdv A outer s H vs Q E hr h => ?_)
  · obtain ⟨_, _, _, rfl, _⟩ := h
    rfl
  · obtain ⟨p, n, c, rfl, hn, hn2, hp, hc, q⟩ := h
    obtain ⟨a, b, eH, a0, b0, b1, c0⟩ := id hp
    refine ⟨_, (pss_cons (ps_if (pt_cmpR op_gt (pe_ix (ix_seqK K rfl) (pv 0) pe_int (fun _ _ => rfl)) pe_int (nomark _)) (pss_cons (ps_set (i := 2) sc_law_draw.nd rfl (Or.inl rfl) (pe_op op_mod (pe_ix (ix_seqK K rfl) (pv 0) pe_int (fun _ _ => rfl)) (pv 1)))
 (pss_cons (ps_asg (pe_op op_fdiv (pe_ix (ix_seqK K rfl) (pv 0) pe_int (fun _ _ => rfl)) (pv 1)) (pg_sub (pv 0) pe_int set_list))
 (pss_one (ps_ret (pv 2))))) pss_nil)
 (pss_cons (ps_set (i := 3) sc_law_draw.nd rfl (Or.inl rfl) pe_int)
 (pss_cons (ps_for PassesOwn.never rfl (pi_range1 rfl T.z_range (pa_cons (pe_op op_add pe_int (pe_op op_fdiv (pe_bits (pv 1)) pe_int)) pa_nil)) (pg_name (i := 4) sc_law_draw.nd rfl (Or.inl rfl)) (pss_cons (ps_asg (pe_op op_add (pe_ix (ix_seqK K rfl) (pv 0) pe_int (fun _ _ => rfl)) pe_int) (pg_sub (pv 0) pe_int set_list))
 (pss_one (ps_set (i := 3) sc_law_draw.nd rfl (Or.inl rfl) (pe_op op_add (pe_op op_mul (pv 3) pe_int) (pe_call (ok_law_mixed T) (hr.mono (by decide)) (by rfl) T.g_law_mixed T.F_law_mixed.kp T.b_law_mixed .nil pass0 (pa_cons (pe_ix (ix_seqK K rfl) (pv 0) pe_int (fun _ _ => rfl)) (pa_cons (pe_ix (ix_seqK K rfl) (pv 0) pe_int (fun _ _ => rfl)) pa_nil))))))))
 (pss_one (ps_ret (pe_op op_mod (pv 3) (pv 1))))))), ?_⟩
    refine ⟨_, rfl, .inl ⟨p, _, 0, .int a, rfl, rfl, SqL.of eH, rfl, _, _, rfl, rfl, _, rfl, ite2 (fun h => ?_) (fun h => ?_)⟩⟩
    · refine ⟨_, rfl, .inl ⟨p, _, 0, .int a, rfl, rfl, SqL.of eH, rfl, _, rfl, _, _, rfl, rfl, (by show 0 < n; omega), ?_⟩⟩
      refine ⟨_, rfl, .inl ⟨p, _, 0, .int a, rfl, rfl, SqL.of eH, rfl, _, rfl, _, _, rfl, rfl, ⟨by omega, hn2⟩, ?_⟩⟩
      refine ⟨_, rfl, p, _, 0, 0, rfl, rfl, eH, rfl, _, rfl, ?_⟩
      refine q _ _ c (Int.emod_nonneg _ (by omega)) (Int.emod_lt_of_pos _ (by omega)) (fun x o e ne => by rw [upd_ne ne]; exact e) (fun x e => ?_) ⟨a / n, b, upd_same, Int.ediv_nonneg a0 (by omega), b0, b1, c0⟩ (Int.le_refl _) (by omega)
      by_cases z : x = p
      · subst z; rw [upd_same] at e; cases e
      · rw [upd_ne z] at e; exact e
    · refine ⟨_, rfl, n, rfl, _, _, rfl, rfl, ⟨by decide, by decide⟩, _, _, rfl, rfl, _, rfl, ?_⟩
      have hb : (Builtin.Int.intBits n : Int) ≤ 30 := by
        have := PyProof.Rows.intBits_le (a := n) (k := 30) (by omega)
        omega
      have hb0 : (0 : Int) ≤ (Builtin.Int.intBits n : Int) := Int.natCast_nonneg _
      refine ⟨by omega, by omega, for_range (fun i σ H' => ∃ c' m y, σ = [some (.ref p), some (.int n), none, some (.int m), y] ∧ Purse H' p c' ∧ c ≤ c' ∧ c' ≤ c + i ∧ (∀ x o, H x = some o → x ≠ p → H' x = some o) ∧ (∀ x, H' x = none → H x = none)) ?_ ?_ ?_⟩
      · exact ⟨c, 0, none, rfl, hp, Int.le_refl _, by omega, fun x o e _ => e, fun x e => e⟩
      · rintro i σ H' hi ⟨c', m, y, rfl, ⟨a', b', e', a0', b0', b1', c0'⟩, hc0, hc1, kp, fr⟩
        have hi2 : i < 2 := by omega
        refine ⟨_, rfl, .inl ⟨p, _, 2, .int c', rfl, rfl, SqL.of e', rfl, _, _, rfl, rfl, _, rfl, p, _, 2, 2, rfl, rfl, e', rfl, ?_⟩⟩
        have e2 : upd H' p (.lst ([V.int a', .int b', .int c'].set 2 (.int (c' + 1)))) p = some (.lst [.int a', .int b', .int (c' + 1)]) := upd_same
        refine ⟨_, rfl, _, _, rfl, rfl, .inr ⟨by decide, by decide⟩, _, rfl, .inl ⟨p, _, 1, .int b', rfl, rfl, SqL.of e2, rfl, _, rfl, .inl ⟨p, _, 2, .int (c' + 1), rfl, rfl, SqL.of e2, rfl, ?_⟩⟩⟩
        refine ⟨b', c' + 1, rfl, b0', b1', by omega, by omega, fun r r0 r1 => ?_⟩
        refine ⟨_, _, rfl, rfl, c' + 1, _, _, rfl, ⟨a', b', e2, a0', b0', b1', by omega⟩, by omega, by omega, fun x o e ne => by rw [upd_ne ne]; exact kp x o e ne, fun x e => ?_⟩
        by_cases z : x = p
        · subst z; rw [upd_same] at e; cases e
        · rw [upd_ne z] at e; exact fr x e
      · rintro σ H' ⟨c', m, y, rfl, hp', hc0, hc1, kp, fr⟩
        refine ⟨_, rfl, _, rfl, _, _, rfl, rfl, (by show 0 < n; omega), ?_⟩
        exact q _ H' c' (Int.emod_nonneg _ (by omega)) (Int.emod_lt_of_pos _ (by omega)) kp fr hp' hc0 (by omega)

/-! ### sorts, kinds -/
def csT (T : Top K mg) : List Addr := [T.C_NoMachine, T.C_Unclean, T.C_NoLot, T.C_TooMany, T.C_Going, T.C_NoDeed, T.C_Full, T.C_NoText, T.C_NoLine, T.C_NoTalk, T.C_Unchained, T.C_NoPlain, T.C_NoPart, T.C_NoProgram, T.C_Wrong, T.C_Taken, T.C_NoHand, T.C_NoName, T.C_NoState, T.C_TalkError]
def sortsD (i : Nat) : List PyData := ((List.range 19).map (tabX i)).map PyData.bool
def kindsD (i : Nat) : List PyData := [.bool (tabX i 19), .bool (tabX i 20), .bool (tabX i 21), .bool (tabX i 22)]
def spSorts (T : Top K mg) (out : Nat → List PyData) : Sp := fun vs H Q _ => ∃ F v x i, vs = [v] ∧ Same F H ∧ XAt K F v x ∧ (csT T)[i]? = some x.C ∧ ∀ p vf F2 H2, Fr M0 F H F2 H2 → H p = none → F2 p = none → H2 p = some (.lst vf) → DqAll F2 vf (out i) → Q (.ref p) H2
theorem ok_law_sorts (T : Top K mg) : FnOk P w K mg base CX0 3 T.a_law_sorts T.fd_law_sorts ["_law_it"] (spSorts T sortsD) := by
  refine T.F_law_sorts.ok sc_law_sorts (fun vs H Q E h => ?_) (fun cdv A outer s H vs Q E hr h => ?_)
  · obtain ⟨_, _, _, _, rfl, _⟩ := h
    rfl
  · obtain ⟨F, v, x, i, rfl, sF, hv, hi, q⟩ := h
    refine ⟨_, (pss_cons (ps_set (i := 1) sc_law_sorts.nd rfl (Or.inl rfl) (pe_lst (pa_cons (pe_callB call_isX (by rfl) T.z_isinstance (by decide +kernel) (pa_cons (pv 0) (pa_cons (pe_glob (v := .ref T.C_NoMachine) rfl T.g_NoMachine rfl) pa_nil))) (pa_cons (pe_callB call_isX (by rfl) T.z_isinstance (by decide +kernel) (pa_cons (pv 0) (pa_cons (pe_glob (v := .ref T.C_Unclean) rfl T.g_Unclean rfl) pa_nil))) (pa_cons (pe_callB call_isX (by rfl) T.z_isinstance (by decide +kernel) (pa_cons (pv 0) (pa_cons (pe_glob (v := .ref T.C_NoLot) rfl T.g_NoLot rfl) pa_nil))) (pa_cons (pe_callB call_isX (by rfl) T.z_isinstance (by decide +kernel) (pa_cons (pv 0) (pa_cons (pe_glob (v := .ref T.C_TooMany) rfl T.g_TooMany rfl) pa_nil))) pa_nil))))))
 (pss_cons (ps_set (i := 1) sc_law_sorts.nd rfl (Or.inl rfl) (pe_op op_cat (pv 1) (pe_lst (pa_cons (pe_callB call_isX (by rfl) T.z_isinstance (by decide +kernel) (pa_cons (pv 0) (pa_cons (pe_glob (v := .ref T.C_Going) rfl T.g_Going rfl) pa_nil))) (pa_cons (pe_callB call_isX (by rfl) T.z_isinstance (by decide +kernel) (pa_cons (pv 0) (pa_cons (pe_glob (v := .ref T.C_NoDeed) rfl T.g_NoDeed rfl) pa_nil))) (pa_cons (pe_callB call_isX (by rfl) T.z_isinstance (by decide +kernel) (pa_cons (pv 0) (pa_cons (pe_glob (v := .ref T.C_Full) rfl T.g_Full rfl) pa_nil))) (pa_cons (pe_callB call_isX (by rfl) T.z_isinstance (by decide +kernel) (pa_cons (pv 0) (pa_cons (pe_glob (v := .ref T.C_NoText) rfl T.g_NoText rfl) pa_nil))) pa_nil)))))))
 (pss_cons (ps_set (i := 1) sc_law_sorts.nd rfl (Or.inl rfl) (pe_op op_cat (pv 1) (pe_lst (pa_cons (pe_callB call_isX (by rfl) T.z_isinstance (by decide +kernel) (pa_cons (pv 0) (pa_cons (pe_glob (v := .ref T.C_NoLine) rfl T.g_NoLine rfl) pa_nil))) (pa_cons (pe_callB call_isX (by rfl) T.z_isinstance (by decide +kernel) (pa_cons (pv 0) (pa_cons (pe_glob (v := .ref T.C_NoTalk) rfl T.g_NoTalk rfl) pa_nil))) (pa_cons (pe_callB call_isX (by rfl) T.z_isinstance (by decide +kernel) (pa_cons (pv 0) (pa_cons (pe_glob (v := .ref T.C_Unchained) rfl T.g_Unchained rfl) pa_nil))) pa_nil))))))
 (pss_cons (ps_set (i := 1) sc_law_sorts.nd rfl (Or.inl rfl) (pe_op op_cat (pv 1) (pe_lst (pa_cons (pe_callB call_isX (by rfl) T.z_isinstance (by decide +kernel) (pa_cons (pv 0) (pa_cons (pe_glob (v := .ref T.C_NoPlain) rfl T.g_NoPlain rfl) pa_nil))) (pa_cons (pe_callB call_isX (by rfl) T.z_isinstance (by decide +kernel) (pa_cons (pv 0) (pa_cons (pe_glob (v := .ref T.C_NoPart) rfl T.g_NoPart rfl) pa_nil))) (pa_cons (pe_callB call_isX (by rfl) T.z_isinstance (by decide +kernel) (pa_cons (pv 0) (pa_cons (pe_glob (v := .ref T.C_NoProgram) rfl T.g_NoProgram rfl) pa_nil))) pa_nil))))))
 (pss_cons (ps_set (i := 1) sc_law_sorts.nd rfl (Or.inl rfl) (pe_op op_cat (pv 1) (pe_lst (pa_cons (pe_callB call_isX (by rfl) T.z_isinstance (by decide +kernel) (pa_cons (pv 0) (pa_cons (pe_glob (v := .ref T.C_Wrong) rfl T.g_Wrong rfl) pa_nil))) (pa_cons (pe_callB call_isX (by rfl) T.z_isinstance (by decide +kernel) (pa_cons (pv 0) (pa_cons (pe_glob (v := .ref T.C_Taken) rfl T.g_Taken rfl) pa_nil))) (pa_cons (pe_callB call_isX (by rfl) T.z_isinstance (by decide +kernel) (pa_cons (pv 0) (pa_cons (pe_glob (v := .ref T.C_NoHand) rfl T.g_NoHand rfl) pa_nil))) (pa_cons (pe_callB call_isX (by rfl) T.z_isinstance (by decide +kernel) (pa_cons (pv 0) (pa_cons (pe_glob (v := .ref T.C_NoName) rfl T.g_NoName rfl) pa_nil))) pa_nil)))))))
 (pss_one (ps_ret (pe_op op_cat (pv 1) (pe_lst (pa_cons (pe_callB call_isX (by rfl) T.z_isinstance (by decide +kernel) (pa_cons (pv 0) (pa_cons (pe_glob (v := .ref T.C_NoState) rfl T.g_NoState rfl) pa_nil))) pa_nil)))))))))), ?_⟩
    have k : ∀ {F1 : Hp} {σ : L2.St} (j : Nat) (C : Addr), Same F F1 → σ[0]? = some (some v) → ([.ref T.C_NoMachine, .ref T.C_Unclean, .ref T.C_NoLot, .ref T.C_TooMany, .ref T.C_Going, .ref T.C_NoDeed, .ref T.C_Full, .ref T.C_NoText, .ref T.C_NoLine, .ref T.C_NoTalk, .ref T.C_Unchained, .ref T.C_NoPlain, .ref T.C_NoPart, .ref T.C_NoProgram, .ref T.C_Wrong, .ref T.C_Taken, .ref T.C_NoHand, .ref T.C_NoName, .ref T.C_NoState, .ref T.C_TalkError, .type "ValueError", .type "KeyError", .type "IndexError"] : List Value)[j]? = some (.ref C) →
        EvF (tCB (rIsX K) (tCons (tVar 0) (tCons (tC (.ref C)) tNil))) σ F1 (.bool (tabX i j)) := fun j C s e ej => ev_isX (vr_var e (XAt.mon _ _ _ _ s hv)) (.own C) (T.kt i j _ _ hi ej)
    have r0 : Same F F := fun _ _ e => e
    refine s_asg (eo_lst (ea_cons (k 0 _ r0 rfl rfl) (ea_cons (k 1 _ r0 rfl rfl) (ea_cons (k 2 _ r0 rfl rfl) (ea_cons (k 3 _ r0 rfl rfl) ea_nil)))) (by simp)).f sF fun v1 F1 H1 f1 d1 => ?_
    refine s_asg (eo_cat (ev_var rfl d1) (eo_lst (ea_cons (k 4 _ f1.ff rfl rfl) (ea_cons (k 5 _ f1.ff rfl rfl) (ea_cons (k 6 _ f1.ff rfl rfl) (ea_cons (k 7 _ f1.ff rfl rfl) ea_nil)))) (by simp)).f (by show 8 ≤ _; decide)).f f1.fh fun v2 F2 H2 f2 d2 => ?_
    have f2' := f1.trans f2
    refine s_asg (eo_cat (ev_var rfl d2) (eo_lst (ea_cons (k 8 _ f2'.ff rfl rfl) (ea_cons (k 9 _ f2'.ff rfl rfl) (ea_cons (k 10 _ f2'.ff rfl rfl) ea_nil))) (by simp)).f (by show 11 ≤ _; decide)).f f2.fh fun v3 F3 H3 f3 d3 => ?_
    have f3' := f2'.trans f3
    refine s_asg (eo_cat (ev_var rfl d3) (eo_lst (ea_cons (k 11 _ f3'.ff rfl rfl) (ea_cons (k 12 _ f3'.ff rfl rfl) (ea_cons (k 13 _ f3'.ff rfl rfl) ea_nil))) (by simp)).f (by show 14 ≤ _; decide)).f f3.fh fun v4 F4 H4 f4 d4 => ?_
    have f4' := f3'.trans f4
    refine s_asg (eo_cat (ev_var rfl d4) (eo_lst (ea_cons (k 14 _ f4'.ff rfl rfl) (ea_cons (k 15 _ f4'.ff rfl rfl) (ea_cons (k 16 _ f4'.ff rfl rfl) (ea_cons (k 17 _ f4'.ff rfl rfl) ea_nil)))) (by simp)).f (by show 18 ≤ _; decide)).f f4.fh fun v5 F5 H5 f5 d5 => ?_
    have f5' := f4'.trans f5
    refine s_retO (eo_cat (ev_var rfl d5) (eo_lst (ea_cons (k 18 _ f5'.ff rfl rfl) ea_nil) (by simp)).f (by show 19 ≤ _; decide)) f5.fh fun p vs F6 H6 f6 np nf hp dv => ?_
    exact q p vs F6 H6 (f5'.trans f6) (f5'.st _ np) nf hp dv
theorem ok_law_kinds (T : Top K mg) : FnOk P w K mg base CX0 1 T.a_law_kinds T.fd_law_kinds ["_law_it"] (spSorts T kindsD) := by
  refine T.F_law_kinds.ok sc_law_kinds (fun vs H Q E h => ?_) (fun cdv A outer s H vs Q E hr h => ?_)
  · obtain ⟨_, _, _, _, rfl, _⟩ := h
    rfl
  · obtain ⟨F, v, x, i, rfl, sF, hv, hi, q⟩ := h
    refine ⟨_, (pss_cons (ps_set (i := 1) sc_law_kinds.nd rfl (Or.inl rfl) (pe_lst (pa_cons (pe_callB call_isX (by rfl) T.z_isinstance (by decide +kernel) (pa_cons (pv 0) (pa_cons (pe_glob (v := .ref T.C_TalkError) rfl T.g_TalkError rfl) pa_nil))) (pa_cons (pe_callB call_isX (by rfl) T.z_isinstance (by decide +kernel) (pa_cons (pv 0) (pa_cons (pe_bltn (v := .ty "ValueError") (by rfl) T.z_ValueError boot_ValueError rfl) pa_nil))) (pa_cons (pe_callB call_isX (by rfl) T.z_isinstance (by decide +kernel) (pa_cons (pv 0) (pa_cons (pe_bltn (v := .ty "KeyError") (by rfl) T.z_KeyError boot_KeyError rfl) pa_nil))) pa_nil)))))
 (pss_one (ps_ret (pe_op op_cat (pv 1) (pe_lst (pa_cons (pe_callB call_isX (by rfl) T.z_isinstance (by decide +kernel) (pa_cons (pv 0) (pa_cons (pe_bltn (v := .ty "IndexError") (by rfl) T.z_IndexError boot_IndexError rfl) pa_nil))) pa_nil)))))), ?_⟩
    refine s_asg (eo_lst (ea_cons (ev_isX (vr_var rfl hv) (.own _) (T.kt i 19 _ _ hi rfl)) (ea_cons (ev_isX (vr_var rfl hv) (.ty _) (T.kt i 20 _ _ hi rfl)) (ea_cons (ev_isX (vr_var rfl hv) (.ty _) (T.kt i 21 _ _ hi rfl)) ea_nil))) (by simp)).f sF fun v1 F1 H1 f1 d1 => ?_
    refine s_retO (eo_cat (ev_var rfl d1) (eo_lst (ea_cons (ev_isX (vr_var rfl (XAt.mon _ _ _ _ f1.ff hv)) (.ty _) (T.kt i 22 _ _ hi rfl)) ea_nil) (by simp)).f (by show 4 ≤ _; decide)) f1.fh fun p vs F6 H6 f6 np nf hp dv => ?_
    exact q p vs F6 H6 (f1.trans f6) (f1.st _ np) nf hp dv
theorem eo_sorts {T : Top K mg} {te : TE} {σ : L2.St} {F : Hp} {x : XD} {i : Nat} {E : XK} {out : Nat → List PyData} (h : EvV (XAt K) te σ F x) (hi : (csT T)[i]? = some x.C) : EvO (tCall (spSorts T out) [] E (tCons te tNil)) σ F (out i) := fun H s Q q =>
  h H s _ fun v F1 H1 f1 dv => ⟨F1, v, x, i, rfl, f1.fh, dv, hi, fun p vf F2 H2 f2 np nf hp dvf => q p vf F2 H2 (f1.trans f2) (f1.st _ np) nf hp dvf⟩
/-! ### the rows -/
theorem beqd {α : Type} [DecidableEq α] (a b : α) : (a == b) = decide (a = b) := by by_cases h : a = b <;> simp [h]
theorem eqv_int (a b : Int) : PyData.eqv (.int a) (.int b) = decide (a = b) := by simp only [PyData.eqv, beqd]
theorem plain_bls (bs : List Bool) : (PyData.list (bs.map PyData.bool)).plain = true := by
  rw [PyData.plain]
  refine plainAll_iff.mpr fun d hd => ?_
  obtain ⟨b, _, rfl⟩ := List.mem_map.mp hd
  rfl
theorem depth_bls (bs : List Bool) : (PyData.list (bs.map PyData.bool)).depth ≤ 60 := by
  rw [PyData.depth]
  have := depthAll_le (n := 0) (ds := bs.map PyData.bool) fun d hd => by
    obtain ⟨b, _, rfl⟩ := List.mem_map.mp hd
    exact Nat.zero_le _
  omega
theorem sorts_at (k : Nat) : ((List.range 19).map fun (j : Nat) => PyData.bool (PyData.eqv (.int (j : Int)) (.int (k : Int)))) = sortsD k := by
  unfold sortsD
  rw [List.map_map]
  refine List.map_congr_left fun j hj => ?_
  have hj' := List.mem_range.mp hj
  show PyData.bool _ = PyData.bool (tabX k j)
  rw [eqv_int]
  unfold tabX
  rw [if_pos hj']
  congr 1
  rw [beqd]
  exact decide_eq_decide.mpr (by omega)
theorem kinds_tab : ∀ k : Fin 19, decide (((k : Nat) : Int) < 16) = tabX k 19 ∧ decide (((k : Nat) : Int) < 16) = tabX k 20 ∧ (decide ((16 : Int) = ((k : Nat) : Int)) || (decide ((17 : Int) = ((k : Nat) : Int)) || false)) = tabX k 21 ∧ decide (((k : Nat) : Int) = 18) = tabX k 22 := by decide
theorem kinds_at {k : Nat} (hk : k < 19) : [PyData.bool (decide ((k : Int) < 16)), PyData.bool (decide ((k : Int) < 16)), PyData.bool ([PyData.int 16, PyData.int 17].any fun z => PyData.eqv z (.int (k : Int))), PyData.bool (PyData.eqv (.int (k : Int)) (.int 18))] = kindsD k := by
  obtain ⟨h1, h2, h3, h4⟩ := kinds_tab ⟨k, hk⟩
  unfold kindsD
  show [PyData.bool _, PyData.bool _, PyData.bool (PyData.eqv (.int 16) (.int (k : Int)) || (PyData.eqv (.int 17) (.int (k : Int)) || false)), _] = _
  rw [eqv_int, eqv_int, eqv_int]
  rw [show tabX k 19 = _ from h1.symm, show tabX k 20 = _ from h2.symm, show tabX k 21 = _ from h3.symm, show tabX k 22 = _ from h4.symm]
theorem kinds_bls (i : Nat) : kindsD i = [tabX i 19, tabX i 20, tabX i 21, tabX i 22].map PyData.bool := rfl
theorem ne_self {d : PyData} (p : d.plain = true) : (!PyData.eqv d d) = false := by rw [SeqAt.eqv_refl_plain d p]; rfl
def Cls (T : Top K mg) (xs : List XD) : Prop := ∀ (i : Nat) (x : XD), xs[i]? = some x → (csT T)[i]? = some x.C
def spRow (T : Top K mg) : Sp := fun vs H Q _ => ∃ F v xs, vs = [v] ∧ Same F H ∧ LR (XAt K) F v xs ∧ Cls T xs ∧ xs.length = 19 ∧ ∀ H2, Fr M0 F H F H2 → Q (.bl true) H2
theorem ok_law_row_right (T : Top K mg) : FnOk P w K mg base CX0 4 T.a_law_row_right T.fd_law_row_right ["_law_some"] (spRow T) := by
  refine T.F_law_row_right.ok sc_law_row_right (fun vs H Q E h => ?_) (fun cdv A outer s H vs Q E hr h => ?_)
  · obtain ⟨_, _, _, rfl, _⟩ := h
    rfl
  · obtain ⟨F, v, xs, rfl, sF, ⟨a, vs, rfl, ea, hv⟩, hC, hl, q⟩ := h
    refine ⟨_, (pss_cons (ps_for PassesOwn.never rfl (pi_enum (by rfl) T.z_enumerate (pa_cons (pv 0) pa_nil)) (pg_tup (by rfl) (pgs_cons (pg_name (i := 1) sc_law_row_right.nd rfl (Or.inr rfl)) (pgs_cons (pg_name (i := 2) sc_law_row_right.nd rfl (Or.inl rfl)) pgs_nil))) (pss_cons (ps_set (i := 3) sc_law_row_right.nd rfl (Or.inl rfl) (pe_lst (pa_cons (pe_cmpR op_lt (pv 1) pe_int (nomark _)) (pa_cons (pe_cmpR op_lt (pv 1) pe_int (nomark _)) (pa_cons (pe_cmpR (op_inQ hr.units) (pv 1) (pe_lst (pa_cons pe_int (pa_cons pe_int pa_nil))) (by rfl)) (pa_cons (pe_cmpR (op_eqQ hr.units) (pv 1) pe_int (nomark _)) pa_nil))))))
 (pss_one (ps_if (PW.pt (pw_or (pt_cmpR (op_neQ hr.units) (pe_call (ok_law_sorts T) (hr.mono (by decide)) (by rfl) T.g_law_sorts T.F_law_sorts.kp T.b_law_sorts .nil pass0 (pa_cons (pv 2) pa_nil)) (pe_lc (own := [("_law_j", 4)]) (g := gName 4) (tt := tYes) rfl sc_law_row_right.nd (pi_range1 rfl T.z_range (pa_cons pe_int pa_nil)) (blkOk_by (own := [("_law_j", 4)]) (N := ["_law_some", "_law_k", "_law_it", "_law_kinds_here", "_law_j"]) (sc := defScope s_law_row_right) (by decide +kernel)) (fun _ _ _ _ _ => (pg_name (i := 4) sc_law_row_right.nd rfl (Or.inl rfl))) (fun _ _ _ _ _ => pts_nil) (fun _ _ _ _ _ => (pe_cmpR (op_eqQ hr.units) (pv 4) (pv 1) (nomark _)))) (nomark _)) (pw_or1 (pt_cmpR (op_neQ hr.units) (pe_call (ok_law_kinds T) (hr.mono (by decide)) (by rfl) T.g_law_kinds T.F_law_kinds.kp T.b_law_kinds .nil pass0 (pa_cons (pv 2) pa_nil)) (pv 3) (nomark _))))) (pss_one (ps_ret pe_bl)) pss_nil))))
 (pss_one (ps_ret pe_bl))), ?_⟩
    refine s_forE (F := F) (fun Q q => ⟨_, rfl, q F H (Fr.refl sF)⟩) sF ea fun F1 H1 f1 => ?_
    refine ⟨fun (i : Nat) (σ' : L2.St) (H' : Hp) => ∃ y1 y2 y3 y4, σ' = [some (.ref a), y1, y2, y3, y4] ∧ Fr M0 F H F H', ⟨none, none, none, none, rfl, f1.drop⟩, ?_, ?_, ?_⟩
    · rintro i σ' H' ⟨_, _, _, _, _, fr⟩
      exact fr.fh
    · rintro i x T0 σ' H' hx ⟨y1, y2, y3, y4, rfl, fr⟩ nT
      have f2 : Fr M0 F H F (upd H' T0 (.tup [.int (i : Int), x])) := fr.trans (Fr.own fr.fh nT)
      obtain ⟨xd, hxd, dx⟩ := pairedGetL hv hx
      have hi : i < 19 := by
        have := (List.getElem?_eq_some_iff.mp hxd).1
        omega
      have hc := hC i xd hxd
      generalize upd H' T0 (HO.tup [V.int (i : Int), x]) = H3 at f2 ⊢
      refine s_asg (F := F) (eo_lst (ea_cons (ev_I0 (ev_var rfl (.int _)) ev_int fun _ => .bl _) (ea_cons (ev_I0 (ev_var rfl (.int _)) ev_int fun _ => .bl _) (ea_cons (ev_in (neg := false) (ds := [.int 16, .int 17]) (ev_var rfl (.int _)) (eo_lst (ea_cons ev_int (ea_cons ev_int ea_nil)) (by simp)).f (.inl rfl) rfl rfl (Nat.zero_le _)) (ea_cons (ev_eq (ev_var rfl (.int _)) ev_int rfl rfl (Nat.zero_le _)) ea_nil)))) (by simp)).f f2.fh fun vk F4 H4 f4 dk => ?_
      have dk' : Dq F4 vk (.list (kindsD i)) := kinds_at hi ▸ dk
      have dx4 := XAt.mon _ _ _ _ f4.ff dx
      refine s_whenE (b := false) ((et_or (et_test (ev_ne (eo_sorts (vr_var rfl dx4) hc).f ((eo_lcR (n := 19) (fun j => .bool (PyData.eqv (.int (j : Int)) (.int (i : Int)))) (ea_cons ev_int ea_nil) (by decide) (fun _ => rfl) fun j F1 _ _ => ev_eq (ev_var rfl (.int _)) (ev_var rfl (.int _)) rfl rfl (Nat.zero_le _)).is (sorts_at i)).f (plain_bls _) (plain_bls _) (depth_bls _)))
        fun _ => et_test (ev_ne (eo_sorts (vr_var rfl dx4) hc).f (ev_var rfl dk') (kinds_bls i ▸ plain_bls _) (kinds_bls i ▸ plain_bls _) (kinds_bls i ▸ depth_bls _))).is ?_) f4.fh (fun z => (nomatch z)) fun _ F5 H5 f5 => ?_
      · rw [ne_self (d := .list (sortsD i)) (plain_bls _), ne_self (d := .list (kindsD i)) (kinds_bls i ▸ plain_bls _)]
        rfl
      · exact ⟨_, _, _, _, rfl, ((f2.trans f4).trans f5).drop⟩
    · rintro σ' H' ⟨y1, y2, y3, y4, rfl, fr⟩
      exact q H' fr
/-! ### the fields -/
def HasF (xs : List XD) (k : Nat) (n : Str) (d : PyData) : Prop := ∃ x, xs[k]? = some x ∧ (n, d) ∈ x.fs
structure Flds (xs : List XD) (d0 d1 d2 d3 d4 d5 d6 d7 d8 d9 d10 d11 d12 : PyData) : Prop where
  h0 : HasF xs 9 "why" d0
  h1 : HasF xs 10 "one" d1
  h2 : HasF xs 10 "other" d2
  h3 : HasF xs 11 "state" d3
  h4 : HasF xs 12 "hand" d4
  h5 : HasF xs 13 "row" d5
  h6 : HasF xs 14 "exchange" d6
  h7 : HasF xs 14 "blamed" d7
  h8 : HasF xs 14 "wanted" d8
  h9 : HasF xs 15 "name" d9
  h10 : HasF xs 16 "hand" d10
  h11 : HasF xs 17 "name" d11
  h12 : HasF xs 18 "state" d12
def spFields (T : Top K mg) : Sp := fun vs H Q _ => ∃ F v xs d0 d1 d2 d3 d4 d5 d6 d7 d8 d9 d10 d11 d12, vs = [v] ∧ Same F H ∧ LR (XAt K) F v xs ∧ Cls T xs ∧ Flds xs d0 d1 d2 d3 d4 d5 d6 d7 d8 d9 d10 d11 d12 ∧
  ∀ v2 F2 H2, Fr M0 F H F2 H2 → Dp K F2 v2 (.list [d0, d1, d2, d3, d4, d5, d6, d7, d8, d9, d10, d11, d12]) → Q v2 H2
theorem ok_law_fields (T : Top K mg) : FnOk P w K mg base CX0 1 T.a_law_fields T.fd_law_fields ["_law_some"] (spFields T) := by
  refine T.F_law_fields.ok sc_law_fields (fun vs H Q E h => ?_) (fun cdv A outer s H vs Q E hr h => ?_)
  · obtain ⟨_, _, _, _, _, _, _, _, _, _, _, _, _, _, _, _, rfl, _⟩ := h
    rfl
  · obtain ⟨F, v, xs, d0, d1, d2, d3, d4, d5, d6, d7, d8, d9, d10, d11, d12, rfl, sF, hv, hC, hf, q⟩ := h
    refine ⟨_, (pss_cons (ps_set (i := 1) sc_law_fields.nd rfl (Or.inl rfl) (pe_lst (pa_cons (pe_xfld (pe_ix (ix_seqK K rfl) (pv 0) pe_int (fun _ _ => rfl))) (pa_cons (pe_xfld (pe_ix (ix_seqK K rfl) (pv 0) pe_int (fun _ _ => rfl))) (pa_cons (pe_xfld (pe_ix (ix_seqK K rfl) (pv 0) pe_int (fun _ _ => rfl))) (pa_cons (pe_xfld (pe_ix (ix_seqK K rfl) (pv 0) pe_int (fun _ _ => rfl))) (pa_cons (pe_xfld (pe_ix (ix_seqK K rfl) (pv 0) pe_int (fun _ _ => rfl))) (pa_cons (pe_xfld (pe_ix (ix_seqK K rfl) (pv 0) pe_int (fun _ _ => rfl))) (pa_cons (pe_xfld (pe_ix (ix_seqK K rfl) (pv 0) pe_int (fun _ _ => rfl))) pa_nil)))))))))
 (pss_one (ps_ret (pe_op op_cat (pv 1) (pe_lst (pa_cons (pe_xfld (pe_ix (ix_seqK K rfl) (pv 0) pe_int (fun _ _ => rfl))) (pa_cons (pe_xfld (pe_ix (ix_seqK K rfl) (pv 0) pe_int (fun _ _ => rfl))) (pa_cons (pe_xfld (pe_ix (ix_seqK K rfl) (pv 0) pe_int (fun _ _ => rfl))) (pa_cons (pe_xfld (pe_ix (ix_seqK K rfl) (pv 0) pe_int (fun _ _ => rfl))) (pa_cons (pe_xfld (pe_ix (ix_seqK K rfl) (pv 0) pe_int (fun _ _ => rfl))) (pa_cons (pe_xfld (pe_ix (ix_seqK K rfl) (pv 0) pe_int (fun _ _ => rfl))) pa_nil))))))))))), ?_⟩
    have k : ∀ {F1 : Hp} {σ : L2.St} {i : Nat} {n : Str} {d : PyData} {C : Addr}, Same F F1 → σ[0]? = some (some v) → HasF xs i n d → (csT T)[i]? = some C → PySem.W.findIn K (.ref C) n = some none → EvV (RP K) (tXF K n (tOp (rIx K) (tVar 0) (tC (.int (i : Int))))) σ F1 d := fun {F1 σ i n d C} s e ⟨x, hx, hm⟩ hc hfi => by
      have e2 : C = x.C := Option.some.inj (hc.symm.trans (hC i x hx))
      subst e2
      exact ex_fld (vr_ix (vr_var e (XAt.mon.lr _ _ _ _ s hv)) hx) hm hfi
    have r0 : Same F F := fun _ _ e => e
    refine v_asg (EvN.f RP.mon (vn_lst (vs_cons RP.mon (k (i := 9) r0 rfl hf.h0 rfl (T.f_NoTalk _ (by simp))) (vs_cons RP.mon (k (i := 10) r0 rfl hf.h1 rfl (T.f_Unchained _ (by simp))) (vs_cons RP.mon (k (i := 10) r0 rfl hf.h2 rfl (T.f_Unchained _ (by simp))) (vs_cons RP.mon (k (i := 11) r0 rfl hf.h3 rfl (T.f_NoPlain _ (by simp))) (vs_cons RP.mon (k (i := 12) r0 rfl hf.h4 rfl (T.f_NoPart _ (by simp))) (vs_cons RP.mon (k (i := 13) r0 rfl hf.h5 rfl (T.f_NoProgram _ (by simp))) (vs_cons RP.mon (k (i := 14) r0 rfl hf.h6 rfl (T.f_Wrong _ (by simp))) vs_nil))))))) (by simp))) sF fun v1 F1 H1 f1 r1 => ?_
    refine v_ret (vp_lst (EvN.f RP.mon (vn_cat RP.mon (vr_var rfl r1) (EvN.f RP.mon (vn_lst (vs_cons RP.mon (k (i := 14) f1.ff rfl hf.h7 rfl (T.f_Wrong _ (by simp))) (vs_cons RP.mon (k (i := 14) f1.ff rfl hf.h8 rfl (T.f_Wrong _ (by simp))) (vs_cons RP.mon (k (i := 15) f1.ff rfl hf.h9 rfl (T.f_Taken _ (by simp))) (vs_cons RP.mon (k (i := 16) f1.ff rfl hf.h10 rfl (T.f_NoHand _ (by simp))) (vs_cons RP.mon (k (i := 17) f1.ff rfl hf.h11 rfl (T.f_NoName _ (by simp))) (vs_cons RP.mon (k (i := 18) f1.ff rfl hf.h12 rfl (T.f_NoState _ (by simp))) vs_nil)))))) (by simp))) (by simp)))) f1.fh fun v2 F2 H2 f2 r2 => ?_
    exact q v2 F2 H2 (f1.trans f2) r2
theorem vp_fields {T : Top K mg} {te : TE} {σ : L2.St} {F : Hp} {xs : List XD} {E : XK} {d0 d1 d2 d3 d4 d5 d6 d7 d8 d9 d10 d11 d12 : PyData} (h : EvV (LR (XAt K)) te σ F xs) (hC : Cls T xs) (hf : Flds xs d0 d1 d2 d3 d4 d5 d6 d7 d8 d9 d10 d11 d12) :
    EvV (RP K) (tCall (spFields T) [] E (tCons te tNil)) σ F (.list [d0, d1, d2, d3, d4, d5, d6, d7, d8, d9, d10, d11, d12]) := fun H s Q q =>
  h H s _ fun v F1 H1 f1 dv => ⟨F1, v, xs, d0, d1, d2, d3, d4, d5, d6, d7, d8, d9, d10, d11, d12, rfl, f1.fh, dv, hC, hf, fun v2 F2 H2 f2 dv2 => q v2 F2 H2 (f1.trans f2) dv2⟩
theorem ev_row {T : Top K mg} {te : TE} {σ : L2.St} {F : Hp} {xs : List XD} {E : XK} (h : EvV (LR (XAt K)) te σ F xs) (hC : Cls T xs) (hl : xs.length = 19) : EvF (tCall (spRow T) [] E (tCons te tNil)) σ F (.bool true) := fun H s Q q =>
  h H s _ fun v F1 H1 f1 dv => ⟨F1, v, xs, rfl, f1.fh, dv, hC, hl, fun H2 f2 => q _ F1 H2 (f1.trans f2) (.bl _)⟩
/-! ### the law -/
theorem kb_NoTalk_0 (T : Top K mg) : ∃ its : List Value, KBn K T.fd_NoTalk___init__ ["self", "why"] 1 [] (fun us ws => us ++ ((its.drop 0).take 1 ++ [])) (fun vs zs => vs ++ (([V.str ""].drop 0).take 1 ++ [])) :=
  T.F_NoTalk___init__.kbindsD 1 [] (fun us ds ws => us ++ ((ds.drop 0).take 1 ++ [])) (by simp) (fun r1 r2 r3 => r1.append (((r2.drop 0).take 1).append .nil)) (fun T kV doc pm an cdv ct us its ws l1 l2 l3 => match us, its, ws, l1, l2, l3 with | [_], [_], [], _, _, _ => ⟨_, rfl, rfl⟩)
theorem kb_NoState_0 (T : Top K mg) : ∃ its : List Value, KBn K T.fd_NoState___init__ ["self", "state"] 1 [] (fun us ws => us ++ ((its.drop 0).take 1 ++ [])) (fun vs zs => vs ++ (([V.non].drop 0).take 1 ++ [])) :=
  T.F_NoState___init__.kbindsD 1 [] (fun us ds ws => us ++ ((ds.drop 0).take 1 ++ [])) (by simp) (fun r1 r2 r3 => r1.append (((r2.drop 0).take 1).append .nil)) (fun T kV doc pm an cdv ct us its ws l1 l2 l3 => match us, its, ws, l1, l2, l3 with | [_], [_], [], _, _, _ => ⟨_, rfl, rfl⟩)
theorem kb_NoName_0 (T : Top K mg) : ∃ its : List Value, KBn K T.fd_NoName___init__ ["self", "name"] 1 [] (fun us ws => us ++ ((its.drop 0).take 1 ++ [])) (fun vs zs => vs ++ (([V.str ""].drop 0).take 1 ++ [])) :=
  T.F_NoName___init__.kbindsD 1 [] (fun us ds ws => us ++ ((ds.drop 0).take 1 ++ [])) (by simp) (fun r1 r2 r3 => r1.append (((r2.drop 0).take 1).append .nil)) (fun T kV doc pm an cdv ct us its ws l1 l2 l3 => match us, its, ws, l1, l2, l3 with | [_], [_], [], _, _, _ => ⟨_, rfl, rfl⟩)
theorem kb_NoHand_0 (T : Top K mg) : ∃ its : List Value, KBn K T.fd_NoHand___init__ ["self", "hand"] 1 [] (fun us ws => us ++ ((its.drop 0).take 1 ++ [])) (fun vs zs => vs ++ (([V.str ""].drop 0).take 1 ++ [])) :=
  T.F_NoHand___init__.kbindsD 1 [] (fun us ds ws => us ++ ((ds.drop 0).take 1 ++ [])) (by simp) (fun r1 r2 r3 => r1.append (((r2.drop 0).take 1).append .nil)) (fun T kV doc pm an cdv ct us its ws l1 l2 l3 => match us, its, ws, l1, l2, l3 with | [_], [_], [], _, _, _ => ⟨_, rfl, rfl⟩)
theorem kb_Taken_0 (T : Top K mg) : ∃ its : List Value, KBn K T.fd_Taken___init__ ["self", "name"] 1 [] (fun us ws => us ++ ((its.drop 0).take 1 ++ [])) (fun vs zs => vs ++ (([V.str ""].drop 0).take 1 ++ [])) :=
  T.F_Taken___init__.kbindsD 1 [] (fun us ds ws => us ++ ((ds.drop 0).take 1 ++ [])) (by simp) (fun r1 r2 r3 => r1.append (((r2.drop 0).take 1).append .nil)) (fun T kV doc pm an cdv ct us its ws l1 l2 l3 => match us, its, ws, l1, l2, l3 with | [_], [_], [], _, _, _ => ⟨_, rfl, rfl⟩)
theorem kb_Wrong_0 (T : Top K mg) : ∃ its : List Value, KBn K T.fd_Wrong___init__ ["self", "exchange", "blamed", "wanted"] 1 [] (fun us ws => us ++ ((its.drop 0).take 1 ++ ((its.drop 1).take 1 ++ ((its.drop 2).take 1 ++ [])))) (fun vs zs => vs ++ (([V.non, V.ref T.e_Wrong_1, V.ref T.e_Wrong_2].drop 0).take 1 ++ (([V.non, V.ref T.e_Wrong_1, V.ref T.e_Wrong_2].drop 1).take 1 ++ (([V.non, V.ref T.e_Wrong_1, V.ref T.e_Wrong_2].drop 2).take 1 ++ [])))) :=
  T.F_Wrong___init__.kbindsD 1 [] (fun us ds ws => us ++ ((ds.drop 0).take 1 ++ ((ds.drop 1).take 1 ++ ((ds.drop 2).take 1 ++ [])))) (by simp) (fun r1 r2 r3 => r1.append (((r2.drop 0).take 1).append (((r2.drop 1).take 1).append (((r2.drop 2).take 1).append .nil)))) (fun T kV doc pm an cdv ct us its ws l1 l2 l3 => match us, its, ws, l1, l2, l3 with | [_], [_, _, _], [], _, _, _ => ⟨_, rfl, rfl⟩)
theorem kb_NoProgram_0 (T : Top K mg) : ∃ its : List Value, KBn K T.fd_NoProgram___init__ ["self", "row"] 1 [] (fun us ws => us ++ ((its.drop 0).take 1 ++ [])) (fun vs zs => vs ++ (([V.non].drop 0).take 1 ++ [])) :=
  T.F_NoProgram___init__.kbindsD 1 [] (fun us ds ws => us ++ ((ds.drop 0).take 1 ++ [])) (by simp) (fun r1 r2 r3 => r1.append (((r2.drop 0).take 1).append .nil)) (fun T kV doc pm an cdv ct us its ws l1 l2 l3 => match us, its, ws, l1, l2, l3 with | [_], [_], [], _, _, _ => ⟨_, rfl, rfl⟩)
theorem kb_NoPart_0 (T : Top K mg) : ∃ its : List Value, KBn K T.fd_NoPart___init__ ["self", "hand"] 1 [] (fun us ws => us ++ ((its.drop 0).take 1 ++ [])) (fun vs zs => vs ++ (([V.str ""].drop 0).take 1 ++ [])) :=
  T.F_NoPart___init__.kbindsD 1 [] (fun us ds ws => us ++ ((ds.drop 0).take 1 ++ [])) (by simp) (fun r1 r2 r3 => r1.append (((r2.drop 0).take 1).append .nil)) (fun T kV doc pm an cdv ct us its ws l1 l2 l3 => match us, its, ws, l1, l2, l3 with | [_], [_], [], _, _, _ => ⟨_, rfl, rfl⟩)
theorem kb_NoPlain_0 (T : Top K mg) : ∃ its : List Value, KBn K T.fd_NoPlain___init__ ["self", "state"] 1 [] (fun us ws => us ++ ((its.drop 0).take 1 ++ [])) (fun vs zs => vs ++ (([V.non].drop 0).take 1 ++ [])) :=
  T.F_NoPlain___init__.kbindsD 1 [] (fun us ds ws => us ++ ((ds.drop 0).take 1 ++ [])) (by simp) (fun r1 r2 r3 => r1.append (((r2.drop 0).take 1).append .nil)) (fun T kV doc pm an cdv ct us its ws l1 l2 l3 => match us, its, ws, l1, l2, l3 with | [_], [_], [], _, _, _ => ⟨_, rfl, rfl⟩)
theorem kb_Unchained_0 (T : Top K mg) : ∃ its : List Value, KBn K T.fd_Unchained___init__ ["self", "one", "other"] 1 [] (fun us ws => us ++ ((its.drop 0).take 1 ++ ((its.drop 1).take 1 ++ []))) (fun vs zs => vs ++ (([V.non, V.non].drop 0).take 1 ++ (([V.non, V.non].drop 1).take 1 ++ []))) :=
  T.F_Unchained___init__.kbindsD 1 [] (fun us ds ws => us ++ ((ds.drop 0).take 1 ++ ((ds.drop 1).take 1 ++ []))) (by simp) (fun r1 r2 r3 => r1.append (((r2.drop 0).take 1).append (((r2.drop 1).take 1).append .nil))) (fun T kV doc pm an cdv ct us its ws l1 l2 l3 => match us, its, ws, l1, l2, l3 with | [_], [_, _], [], _, _, _ => ⟨_, rfl, rfl⟩)
theorem kb_NoProgram_1 (T : Top K mg) : ∃ its : List Value, KBn K T.fd_NoProgram___init__ ["self", "row"] 2 [] (fun us ws => us ++ []) (fun vs zs => vs ++ []) :=
  T.F_NoProgram___init__.kbindsD 2 [] (fun us ds ws => us ++ []) (by simp) (fun r1 r2 r3 => r1.append .nil) (fun T kV doc pm an cdv ct us its ws l1 l2 l3 => match us, its, ws, l1, l2, l3 with | [_, _], [_], [], _, _, _ => ⟨_, rfl, rfl⟩)
theorem kb_NoPart_1 (T : Top K mg) : ∃ its : List Value, KBn K T.fd_NoPart___init__ ["self", "hand"] 2 [] (fun us ws => us ++ []) (fun vs zs => vs ++ []) :=
  T.F_NoPart___init__.kbindsD 2 [] (fun us ds ws => us ++ []) (by simp) (fun r1 r2 r3 => r1.append .nil) (fun T kV doc pm an cdv ct us its ws l1 l2 l3 => match us, its, ws, l1, l2, l3 with | [_, _], [_], [], _, _, _ => ⟨_, rfl, rfl⟩)
theorem kb_NoPlain_1 (T : Top K mg) : ∃ its : List Value, KBn K T.fd_NoPlain___init__ ["self", "state"] 2 [] (fun us ws => us ++ []) (fun vs zs => vs ++ []) :=
  T.F_NoPlain___init__.kbindsD 2 [] (fun us ds ws => us ++ []) (by simp) (fun r1 r2 r3 => r1.append .nil) (fun T kV doc pm an cdv ct us its ws l1 l2 l3 => match us, its, ws, l1, l2, l3 with | [_, _], [_], [], _, _, _ => ⟨_, rfl, rfl⟩)
theorem kb_Unchained_2 (T : Top K mg) : ∃ its : List Value, KBn K T.fd_Unchained___init__ ["self", "one", "other"] 3 [] (fun us ws => us ++ []) (fun vs zs => vs ++ []) :=
  T.F_Unchained___init__.kbindsD 3 [] (fun us ds ws => us ++ []) (by simp) (fun r1 r2 r3 => r1.append .nil) (fun T kV doc pm an cdv ct us its ws l1 l2 l3 => match us, its, ws, l1, l2, l3 with | [_, _, _], [_, _], [], _, _, _ => ⟨_, rfl, rfl⟩)
theorem kb_NoTalk_1 (T : Top K mg) : ∃ its : List Value, KBn K T.fd_NoTalk___init__ ["self", "why"] 2 [] (fun us ws => us ++ []) (fun vs zs => vs ++ []) :=
  T.F_NoTalk___init__.kbindsD 2 [] (fun us ds ws => us ++ []) (by simp) (fun r1 r2 r3 => r1.append .nil) (fun T kV doc pm an cdv ct us its ws l1 l2 l3 => match us, its, ws, l1, l2, l3 with | [_, _], [_], [], _, _, _ => ⟨_, rfl, rfl⟩)
theorem kb_NoState_1 (T : Top K mg) : ∃ its : List Value, KBn K T.fd_NoState___init__ ["self", "state"] 2 [] (fun us ws => us ++ []) (fun vs zs => vs ++ []) :=
  T.F_NoState___init__.kbindsD 2 [] (fun us ds ws => us ++ []) (by simp) (fun r1 r2 r3 => r1.append .nil) (fun T kV doc pm an cdv ct us its ws l1 l2 l3 => match us, its, ws, l1, l2, l3 with | [_, _], [_], [], _, _, _ => ⟨_, rfl, rfl⟩)
theorem kb_NoName_1 (T : Top K mg) : ∃ its : List Value, KBn K T.fd_NoName___init__ ["self", "name"] 2 [] (fun us ws => us ++ []) (fun vs zs => vs ++ []) :=
  T.F_NoName___init__.kbindsD 2 [] (fun us ds ws => us ++ []) (by simp) (fun r1 r2 r3 => r1.append .nil) (fun T kV doc pm an cdv ct us its ws l1 l2 l3 => match us, its, ws, l1, l2, l3 with | [_, _], [_], [], _, _, _ => ⟨_, rfl, rfl⟩)
theorem kb_NoHand_1 (T : Top K mg) : ∃ its : List Value, KBn K T.fd_NoHand___init__ ["self", "hand"] 2 [] (fun us ws => us ++ []) (fun vs zs => vs ++ []) :=
  T.F_NoHand___init__.kbindsD 2 [] (fun us ds ws => us ++ []) (by simp) (fun r1 r2 r3 => r1.append .nil) (fun T kV doc pm an cdv ct us its ws l1 l2 l3 => match us, its, ws, l1, l2, l3 with | [_, _], [_], [], _, _, _ => ⟨_, rfl, rfl⟩)
theorem kb_Taken_1 (T : Top K mg) : ∃ its : List Value, KBn K T.fd_Taken___init__ ["self", "name"] 2 [] (fun us ws => us ++ []) (fun vs zs => vs ++ []) :=
  T.F_Taken___init__.kbindsD 2 [] (fun us ds ws => us ++ []) (by simp) (fun r1 r2 r3 => r1.append .nil) (fun T kV doc pm an cdv ct us its ws l1 l2 l3 => match us, its, ws, l1, l2, l3 with | [_, _], [_], [], _, _, _ => ⟨_, rfl, rfl⟩)
theorem kb_Wrong_3 (T : Top K mg) : ∃ its : List Value, KBn K T.fd_Wrong___init__ ["self", "exchange", "blamed", "wanted"] 4 [] (fun us ws => us ++ []) (fun vs zs => vs ++ []) :=
  T.F_Wrong___init__.kbindsD 4 [] (fun us ds ws => us ++ []) (by simp) (fun r1 r2 r3 => r1.append .nil) (fun T kV doc pm an cdv ct us its ws l1 l2 l3 => match us, its, ws, l1, l2, l3 with | [_, _, _, _], [_, _, _], [], _, _, _ => ⟨_, rfl, rfl⟩)
theorem kb_NoPart_0_hand (T : Top K mg) : ∃ its : List Value, KBn K T.fd_NoPart___init__ ["self", "hand"] 1 [("hand" : Str)] (fun us ws => us ++ ((ws.drop 0).take 1 ++ [])) (fun vs zs => vs ++ ((zs.drop 0).take 1 ++ [])) :=
  T.F_NoPart___init__.kbindsD 1 [("hand" : Str)] (fun us ds ws => us ++ ((ws.drop 0).take 1 ++ [])) (by simp) (fun r1 r2 r3 => r1.append (((r3.drop 0).take 1).append .nil)) (fun T kV doc pm an cdv ct us its ws l1 l2 l3 => match us, its, ws, l1, l2, l3 with | [_], [_], [_], _, _, _ => ⟨_, rfl, rfl⟩)
theorem kb_NoPlain_0_state (T : Top K mg) : ∃ its : List Value, KBn K T.fd_NoPlain___init__ ["self", "state"] 1 [("state" : Str)] (fun us ws => us ++ ((ws.drop 0).take 1 ++ [])) (fun vs zs => vs ++ ((zs.drop 0).take 1 ++ [])) :=
  T.F_NoPlain___init__.kbindsD 1 [("state" : Str)] (fun us ds ws => us ++ ((ws.drop 0).take 1 ++ [])) (by simp) (fun r1 r2 r3 => r1.append (((r3.drop 0).take 1).append .nil)) (fun T kV doc pm an cdv ct us its ws l1 l2 l3 => match us, its, ws, l1, l2, l3 with | [_], [_], [_], _, _, _ => ⟨_, rfl, rfl⟩)
theorem kb_Unchained_0_other_one (T : Top K mg) : ∃ its : List Value, KBn K T.fd_Unchained___init__ ["self", "one", "other"] 1 [("other" : Str), ("one" : Str)] (fun us ws => us ++ ((ws.drop 1).take 1 ++ ((ws.drop 0).take 1 ++ []))) (fun vs zs => vs ++ ((zs.drop 1).take 1 ++ ((zs.drop 0).take 1 ++ []))) :=
  T.F_Unchained___init__.kbindsD 1 [("other" : Str), ("one" : Str)] (fun us ds ws => us ++ ((ws.drop 1).take 1 ++ ((ws.drop 0).take 1 ++ []))) (by simp) (fun r1 r2 r3 => r1.append (((r3.drop 1).take 1).append (((r3.drop 0).take 1).append .nil))) (fun T kV doc pm an cdv ct us its ws l1 l2 l3 => match us, its, ws, l1, l2, l3 with | [_], [_, _], [_, _], _, _, _ => ⟨_, rfl, rfl⟩)
theorem kb_NoTalk_0_why (T : Top K mg) : ∃ its : List Value, KBn K T.fd_NoTalk___init__ ["self", "why"] 1 [("why" : Str)] (fun us ws => us ++ ((ws.drop 0).take 1 ++ [])) (fun vs zs => vs ++ ((zs.drop 0).take 1 ++ [])) :=
  T.F_NoTalk___init__.kbindsD 1 [("why" : Str)] (fun us ds ws => us ++ ((ws.drop 0).take 1 ++ [])) (by simp) (fun r1 r2 r3 => r1.append (((r3.drop 0).take 1).append .nil)) (fun T kV doc pm an cdv ct us its ws l1 l2 l3 => match us, its, ws, l1, l2, l3 with | [_], [_], [_], _, _, _ => ⟨_, rfl, rfl⟩)
theorem kb_Taken_0_name (T : Top K mg) : ∃ its : List Value, KBn K T.fd_Taken___init__ ["self", "name"] 1 [("name" : Str)] (fun us ws => us ++ ((ws.drop 0).take 1 ++ [])) (fun vs zs => vs ++ ((zs.drop 0).take 1 ++ [])) :=
  T.F_Taken___init__.kbindsD 1 [("name" : Str)] (fun us ds ws => us ++ ((ws.drop 0).take 1 ++ [])) (by simp) (fun r1 r2 r3 => r1.append (((r3.drop 0).take 1).append .nil)) (fun T kV doc pm an cdv ct us its ws l1 l2 l3 => match us, its, ws, l1, l2, l3 with | [_], [_], [_], _, _, _ => ⟨_, rfl, rfl⟩)
theorem kb_Wrong_0_wanted_exchange_blamed (T : Top K mg) : ∃ its : List Value, KBn K T.fd_Wrong___init__ ["self", "exchange", "blamed", "wanted"] 1 [("wanted" : Str), ("exchange" : Str), ("blamed" : Str)] (fun us ws => us ++ ((ws.drop 1).take 1 ++ ((ws.drop 2).take 1 ++ ((ws.drop 0).take 1 ++ [])))) (fun vs zs => vs ++ ((zs.drop 1).take 1 ++ ((zs.drop 2).take 1 ++ ((zs.drop 0).take 1 ++ [])))) :=
  T.F_Wrong___init__.kbindsD 1 [("wanted" : Str), ("exchange" : Str), ("blamed" : Str)] (fun us ds ws => us ++ ((ws.drop 1).take 1 ++ ((ws.drop 2).take 1 ++ ((ws.drop 0).take 1 ++ [])))) (by simp) (fun r1 r2 r3 => r1.append (((r3.drop 1).take 1).append (((r3.drop 2).take 1).append (((r3.drop 0).take 1).append .nil)))) (fun T kV doc pm an cdv ct us its ws l1 l2 l3 => match us, its, ws, l1, l2, l3 with | [_], [_, _, _], [_, _, _], _, _, _ => ⟨_, rfl, rfl⟩)
theorem kb_NoProgram_0_row (T : Top K mg) : ∃ its : List Value, KBn K T.fd_NoProgram___init__ ["self", "row"] 1 [("row" : Str)] (fun us ws => us ++ ((ws.drop 0).take 1 ++ [])) (fun vs zs => vs ++ ((zs.drop 0).take 1 ++ [])) :=
  T.F_NoProgram___init__.kbindsD 1 [("row" : Str)] (fun us ds ws => us ++ ((ws.drop 0).take 1 ++ [])) (by simp) (fun r1 r2 r3 => r1.append (((r3.drop 0).take 1).append .nil)) (fun T kV doc pm an cdv ct us its ws l1 l2 l3 => match us, its, ws, l1, l2, l3 with | [_], [_], [_], _, _, _ => ⟨_, rfl, rfl⟩)
theorem kb_NoState_0_state (T : Top K mg) : ∃ its : List Value, KBn K T.fd_NoState___init__ ["self", "state"] 1 [("state" : Str)] (fun us ws => us ++ ((ws.drop 0).take 1 ++ [])) (fun vs zs => vs ++ ((zs.drop 0).take 1 ++ [])) :=
  T.F_NoState___init__.kbindsD 1 [("state" : Str)] (fun us ds ws => us ++ ((ws.drop 0).take 1 ++ [])) (by simp) (fun r1 r2 r3 => r1.append (((r3.drop 0).take 1).append .nil)) (fun T kV doc pm an cdv ct us its ws l1 l2 l3 => match us, its, ws, l1, l2, l3 with | [_], [_], [_], _, _, _ => ⟨_, rfl, rfl⟩)
theorem kb_NoName_0_name (T : Top K mg) : ∃ its : List Value, KBn K T.fd_NoName___init__ ["self", "name"] 1 [("name" : Str)] (fun us ws => us ++ ((ws.drop 0).take 1 ++ [])) (fun vs zs => vs ++ ((zs.drop 0).take 1 ++ [])) :=
  T.F_NoName___init__.kbindsD 1 [("name" : Str)] (fun us ds ws => us ++ ((ws.drop 0).take 1 ++ [])) (by simp) (fun r1 r2 r3 => r1.append (((r3.drop 0).take 1).append .nil)) (fun T kV doc pm an cdv ct us its ws l1 l2 l3 => match us, its, ws, l1, l2, l3 with | [_], [_], [_], _, _, _ => ⟨_, rfl, rfl⟩)
theorem kb_NoHand_0_hand (T : Top K mg) : ∃ its : List Value, KBn K T.fd_NoHand___init__ ["self", "hand"] 1 [("hand" : Str)] (fun us ws => us ++ ((ws.drop 0).take 1 ++ [])) (fun vs zs => vs ++ ((zs.drop 0).take 1 ++ [])) :=
  T.F_NoHand___init__.kbindsD 1 [("hand" : Str)] (fun us ds ws => us ++ ((ws.drop 0).take 1 ++ [])) (by simp) (fun r1 r2 r3 => r1.append (((r3.drop 0).take 1).append .nil)) (fun T kV doc pm an cdv ct us its ws l1 l2 l3 => match us, its, ws, l1, l2, l3 with | [_], [_], [_], _, _, _ => ⟨_, rfl, rfl⟩)
theorem kb_Unchained_1 (T : Top K mg) : ∃ its : List Value, KBn K T.fd_Unchained___init__ ["self", "one", "other"] 2 [] (fun us ws => us ++ ((its.drop 1).take 1 ++ [])) (fun vs zs => vs ++ (([V.non, V.non].drop 1).take 1 ++ [])) :=
  T.F_Unchained___init__.kbindsD 2 [] (fun us ds ws => us ++ ((ds.drop 1).take 1 ++ [])) (by simp) (fun r1 r2 r3 => r1.append (((r2.drop 1).take 1).append .nil)) (fun T kV doc pm an cdv ct us its ws l1 l2 l3 => match us, its, ws, l1, l2, l3 with | [_, _], [_, _], [], _, _, _ => ⟨_, rfl, rfl⟩)
theorem kb_Wrong_1 (T : Top K mg) : ∃ its : List Value, KBn K T.fd_Wrong___init__ ["self", "exchange", "blamed", "wanted"] 2 [] (fun us ws => us ++ ((its.drop 1).take 1 ++ ((its.drop 2).take 1 ++ []))) (fun vs zs => vs ++ (([V.non, V.ref T.e_Wrong_1, V.ref T.e_Wrong_2].drop 1).take 1 ++ (([V.non, V.ref T.e_Wrong_1, V.ref T.e_Wrong_2].drop 2).take 1 ++ []))) :=
  T.F_Wrong___init__.kbindsD 2 [] (fun us ds ws => us ++ ((ds.drop 1).take 1 ++ ((ds.drop 2).take 1 ++ []))) (by simp) (fun r1 r2 r3 => r1.append (((r2.drop 1).take 1).append (((r2.drop 2).take 1).append .nil))) (fun T kV doc pm an cdv ct us its ws l1 l2 l3 => match us, its, ws, l1, l2, l3 with | [_, _], [_, _, _], [], _, _, _ => ⟨_, rfl, rfl⟩)
theorem ex_NoTalk_0 (T : Top K mg) {σ : L2.St} {F : Hp} {t tk : TA} {E : XK} (ht : EvVs (RP K) t σ F []) (hk : EvVs (RP K) tk σ F []) : EvV (XAt K) (tXN T.C_NoTalk 0 ([] : List Str).length (spX K "ValueError.__init__" ["why"]) (fun vs zs => vs ++ (([V.str ""].drop 0).take 1 ++ [])) E t tk) σ F ⟨T.C_NoTalk, [("why", .str "")]⟩ :=
  ex_N (r := [.str ""]) T.x_NoTalk T.f_NoTalk ht hk rfl rfl (by decide) (fun F a vs zs h1 h2 => by
    cases h1
    cases h2
    exact ⟨_, rfl, (.cons (Dp.str _) .nil)⟩) rfl (by simp)
theorem ex_NoState_0 (T : Top K mg) {σ : L2.St} {F : Hp} {t tk : TA} {E : XK} (ht : EvVs (RP K) t σ F []) (hk : EvVs (RP K) tk σ F []) : EvV (XAt K) (tXN T.C_NoState 0 ([] : List Str).length (spX K "IndexError.__init__" ["state"]) (fun vs zs => vs ++ (([V.non].drop 0).take 1 ++ [])) E t tk) σ F ⟨T.C_NoState, [("state", .none)]⟩ :=
  ex_N (r := [.none]) T.x_NoState T.f_NoState ht hk rfl rfl (by decide) (fun F a vs zs h1 h2 => by
    cases h1
    cases h2
    exact ⟨_, rfl, (.cons Dp.non .nil)⟩) rfl (by simp)
theorem ex_NoName_0 (T : Top K mg) {σ : L2.St} {F : Hp} {t tk : TA} {E : XK} (ht : EvVs (RP K) t σ F []) (hk : EvVs (RP K) tk σ F []) : EvV (XAt K) (tXN T.C_NoName 0 ([] : List Str).length (spX K "KeyError.__init__" ["name"]) (fun vs zs => vs ++ (([V.str ""].drop 0).take 1 ++ [])) E t tk) σ F ⟨T.C_NoName, [("name", .str "")]⟩ :=
  ex_N (r := [.str ""]) T.x_NoName T.f_NoName ht hk rfl rfl (by decide) (fun F a vs zs h1 h2 => by
    cases h1
    cases h2
    exact ⟨_, rfl, (.cons (Dp.str _) .nil)⟩) rfl (by simp)
theorem ex_NoHand_0 (T : Top K mg) {σ : L2.St} {F : Hp} {t tk : TA} {E : XK} (ht : EvVs (RP K) t σ F []) (hk : EvVs (RP K) tk σ F []) : EvV (XAt K) (tXN T.C_NoHand 0 ([] : List Str).length (spX K "KeyError.__init__" ["hand"]) (fun vs zs => vs ++ (([V.str ""].drop 0).take 1 ++ [])) E t tk) σ F ⟨T.C_NoHand, [("hand", .str "")]⟩ :=
  ex_N (r := [.str ""]) T.x_NoHand T.f_NoHand ht hk rfl rfl (by decide) (fun F a vs zs h1 h2 => by
    cases h1
    cases h2
    exact ⟨_, rfl, (.cons (Dp.str _) .nil)⟩) rfl (by simp)
theorem ex_Taken_0 (T : Top K mg) {σ : L2.St} {F : Hp} {t tk : TA} {E : XK} (ht : EvVs (RP K) t σ F []) (hk : EvVs (RP K) tk σ F []) : EvV (XAt K) (tXN T.C_Taken 0 ([] : List Str).length (spX K "ValueError.__init__" ["name"]) (fun vs zs => vs ++ (([V.str ""].drop 0).take 1 ++ [])) E t tk) σ F ⟨T.C_Taken, [("name", .str "")]⟩ :=
  ex_N (r := [.str ""]) T.x_Taken T.f_Taken ht hk rfl rfl (by decide) (fun F a vs zs h1 h2 => by
    cases h1
    cases h2
    exact ⟨_, rfl, (.cons (Dp.str _) .nil)⟩) rfl (by simp)
theorem ex_Wrong_0 (T : Top K mg) {σ : L2.St} {F : Hp} {t tk : TA} {E : XK} (ht : EvVs (RP K) t σ F []) (hk : EvVs (RP K) tk σ F []) : EvV (XAt K) (tXN T.C_Wrong 0 ([] : List Str).length (spX K "ValueError.__init__" ["exchange", "blamed", "wanted"]) (fun vs zs => vs ++ (([V.non, V.ref T.e_Wrong_1, V.ref T.e_Wrong_2].drop 0).take 1 ++ (([V.non, V.ref T.e_Wrong_1, V.ref T.e_Wrong_2].drop 1).take 1 ++ (([V.non, V.ref T.e_Wrong_1, V.ref T.e_Wrong_2].drop 2).take 1 ++ [])))) E t tk) σ F ⟨T.C_Wrong, [("exchange", .none), ("blamed", .tuple []), ("wanted", .tuple [])]⟩ :=
  ex_N (r := [.none, .tuple [], .tuple []]) T.x_Wrong T.f_Wrong ht hk rfl rfl (by decide) (fun F a vs zs h1 h2 => by
    cases h1
    cases h2
    exact ⟨_, rfl, (.cons Dp.non (.cons (Dp.tup (T.u_Wrong_1 _) .nil) (.cons (Dp.tup (T.u_Wrong_2 _) .nil) .nil)))⟩) rfl (by simp)
theorem ex_NoProgram_0 (T : Top K mg) {σ : L2.St} {F : Hp} {t tk : TA} {E : XK} (ht : EvVs (RP K) t σ F []) (hk : EvVs (RP K) tk σ F []) : EvV (XAt K) (tXN T.C_NoProgram 0 ([] : List Str).length (spX K "ValueError.__init__" ["row"]) (fun vs zs => vs ++ (([V.non].drop 0).take 1 ++ [])) E t tk) σ F ⟨T.C_NoProgram, [("row", .none)]⟩ :=
  ex_N (r := [.none]) T.x_NoProgram T.f_NoProgram ht hk rfl rfl (by decide) (fun F a vs zs h1 h2 => by
    cases h1
    cases h2
    exact ⟨_, rfl, (.cons Dp.non .nil)⟩) rfl (by simp)
theorem ex_NoPart_0 (T : Top K mg) {σ : L2.St} {F : Hp} {t tk : TA} {E : XK} (ht : EvVs (RP K) t σ F []) (hk : EvVs (RP K) tk σ F []) : EvV (XAt K) (tXN T.C_NoPart 0 ([] : List Str).length (spX K "ValueError.__init__" ["hand"]) (fun vs zs => vs ++ (([V.str ""].drop 0).take 1 ++ [])) E t tk) σ F ⟨T.C_NoPart, [("hand", .str "")]⟩ :=
  ex_N (r := [.str ""]) T.x_NoPart T.f_NoPart ht hk rfl rfl (by decide) (fun F a vs zs h1 h2 => by
    cases h1
    cases h2
    exact ⟨_, rfl, (.cons (Dp.str _) .nil)⟩) rfl (by simp)
theorem ex_NoPlain_0 (T : Top K mg) {σ : L2.St} {F : Hp} {t tk : TA} {E : XK} (ht : EvVs (RP K) t σ F []) (hk : EvVs (RP K) tk σ F []) : EvV (XAt K) (tXN T.C_NoPlain 0 ([] : List Str).length (spX K "ValueError.__init__" ["state"]) (fun vs zs => vs ++ (([V.non].drop 0).take 1 ++ [])) E t tk) σ F ⟨T.C_NoPlain, [("state", .none)]⟩ :=
  ex_N (r := [.none]) T.x_NoPlain T.f_NoPlain ht hk rfl rfl (by decide) (fun F a vs zs h1 h2 => by
    cases h1
    cases h2
    exact ⟨_, rfl, (.cons Dp.non .nil)⟩) rfl (by simp)
theorem ex_Unchained_0 (T : Top K mg) {σ : L2.St} {F : Hp} {t tk : TA} {E : XK} (ht : EvVs (RP K) t σ F []) (hk : EvVs (RP K) tk σ F []) : EvV (XAt K) (tXN T.C_Unchained 0 ([] : List Str).length (spX K "ValueError.__init__" ["one", "other"]) (fun vs zs => vs ++ (([V.non, V.non].drop 0).take 1 ++ (([V.non, V.non].drop 1).take 1 ++ []))) E t tk) σ F ⟨T.C_Unchained, [("one", .none), ("other", .none)]⟩ :=
  ex_N (r := [.none, .none]) T.x_Unchained T.f_Unchained ht hk rfl rfl (by decide) (fun F a vs zs h1 h2 => by
    cases h1
    cases h2
    exact ⟨_, rfl, (.cons Dp.non (.cons Dp.non .nil))⟩) rfl (by simp)
theorem ex_NoProgram_1 (T : Top K mg) {σ : L2.St} {F : Hp} {t tk : TA} {E : XK} {d0 : PyData} (ht : EvVs (RP K) t σ F [d0]) (hk : EvVs (RP K) tk σ F []) : EvV (XAt K) (tXN T.C_NoProgram 1 ([] : List Str).length (spX K "ValueError.__init__" ["row"]) (fun vs zs => vs ++ []) E t tk) σ F ⟨T.C_NoProgram, [("row", d0)]⟩ :=
  ex_N (r := [d0]) T.x_NoProgram T.f_NoProgram ht hk rfl rfl (by decide) (fun F a vs zs h1 h2 => by
    rcases h1 with _ | ⟨a0, h1⟩
    cases h1
    cases h2
    exact ⟨_, rfl, (.cons a0 .nil)⟩) rfl (by simp)
theorem ex_NoPart_1 (T : Top K mg) {σ : L2.St} {F : Hp} {t tk : TA} {E : XK} {d0 : PyData} (ht : EvVs (RP K) t σ F [d0]) (hk : EvVs (RP K) tk σ F []) : EvV (XAt K) (tXN T.C_NoPart 1 ([] : List Str).length (spX K "ValueError.__init__" ["hand"]) (fun vs zs => vs ++ []) E t tk) σ F ⟨T.C_NoPart, [("hand", d0)]⟩ :=
  ex_N (r := [d0]) T.x_NoPart T.f_NoPart ht hk rfl rfl (by decide) (fun F a vs zs h1 h2 => by
    rcases h1 with _ | ⟨a0, h1⟩
    cases h1
    cases h2
    exact ⟨_, rfl, (.cons a0 .nil)⟩) rfl (by simp)
theorem ex_NoPlain_1 (T : Top K mg) {σ : L2.St} {F : Hp} {t tk : TA} {E : XK} {d0 : PyData} (ht : EvVs (RP K) t σ F [d0]) (hk : EvVs (RP K) tk σ F []) : EvV (XAt K) (tXN T.C_NoPlain 1 ([] : List Str).length (spX K "ValueError.__init__" ["state"]) (fun vs zs => vs ++ []) E t tk) σ F ⟨T.C_NoPlain, [("state", d0)]⟩ :=
  ex_N (r := [d0]) T.x_NoPlain T.f_NoPlain ht hk rfl rfl (by decide) (fun F a vs zs h1 h2 => by
    rcases h1 with _ | ⟨a0, h1⟩
    cases h1
    cases h2
    exact ⟨_, rfl, (.cons a0 .nil)⟩) rfl (by simp)
theorem ex_Unchained_2 (T : Top K mg) {σ : L2.St} {F : Hp} {t tk : TA} {E : XK} {d0 d1 : PyData} (ht : EvVs (RP K) t σ F [d0, d1]) (hk : EvVs (RP K) tk σ F []) : EvV (XAt K) (tXN T.C_Unchained 2 ([] : List Str).length (spX K "ValueError.__init__" ["one", "other"]) (fun vs zs => vs ++ []) E t tk) σ F ⟨T.C_Unchained, [("one", d0), ("other", d1)]⟩ :=
  ex_N (r := [d0, d1]) T.x_Unchained T.f_Unchained ht hk rfl rfl (by decide) (fun F a vs zs h1 h2 => by
    rcases h1 with _ | ⟨a0, h1⟩
    rcases h1 with _ | ⟨a1, h1⟩
    cases h1
    cases h2
    exact ⟨_, rfl, (.cons a0 (.cons a1 .nil))⟩) rfl (by simp)
theorem ex_NoTalk_1 (T : Top K mg) {σ : L2.St} {F : Hp} {t tk : TA} {E : XK} {d0 : PyData} (ht : EvVs (RP K) t σ F [d0]) (hk : EvVs (RP K) tk σ F []) : EvV (XAt K) (tXN T.C_NoTalk 1 ([] : List Str).length (spX K "ValueError.__init__" ["why"]) (fun vs zs => vs ++ []) E t tk) σ F ⟨T.C_NoTalk, [("why", d0)]⟩ :=
  ex_N (r := [d0]) T.x_NoTalk T.f_NoTalk ht hk rfl rfl (by decide) (fun F a vs zs h1 h2 => by
    rcases h1 with _ | ⟨a0, h1⟩
    cases h1
    cases h2
    exact ⟨_, rfl, (.cons a0 .nil)⟩) rfl (by simp)
theorem ex_NoState_1 (T : Top K mg) {σ : L2.St} {F : Hp} {t tk : TA} {E : XK} {d0 : PyData} (ht : EvVs (RP K) t σ F [d0]) (hk : EvVs (RP K) tk σ F []) : EvV (XAt K) (tXN T.C_NoState 1 ([] : List Str).length (spX K "IndexError.__init__" ["state"]) (fun vs zs => vs ++ []) E t tk) σ F ⟨T.C_NoState, [("state", d0)]⟩ :=
  ex_N (r := [d0]) T.x_NoState T.f_NoState ht hk rfl rfl (by decide) (fun F a vs zs h1 h2 => by
    rcases h1 with _ | ⟨a0, h1⟩
    cases h1
    cases h2
    exact ⟨_, rfl, (.cons a0 .nil)⟩) rfl (by simp)
theorem ex_NoName_1 (T : Top K mg) {σ : L2.St} {F : Hp} {t tk : TA} {E : XK} {d0 : PyData} (ht : EvVs (RP K) t σ F [d0]) (hk : EvVs (RP K) tk σ F []) : EvV (XAt K) (tXN T.C_NoName 1 ([] : List Str).length (spX K "KeyError.__init__" ["name"]) (fun vs zs => vs ++ []) E t tk) σ F ⟨T.C_NoName, [("name", d0)]⟩ :=
  ex_N (r := [d0]) T.x_NoName T.f_NoName ht hk rfl rfl (by decide) (fun F a vs zs h1 h2 => by
    rcases h1 with _ | ⟨a0, h1⟩
    cases h1
    cases h2
    exact ⟨_, rfl, (.cons a0 .nil)⟩) rfl (by simp)
theorem ex_NoHand_1 (T : Top K mg) {σ : L2.St} {F : Hp} {t tk : TA} {E : XK} {d0 : PyData} (ht : EvVs (RP K) t σ F [d0]) (hk : EvVs (RP K) tk σ F []) : EvV (XAt K) (tXN T.C_NoHand 1 ([] : List Str).length (spX K "KeyError.__init__" ["hand"]) (fun vs zs => vs ++ []) E t tk) σ F ⟨T.C_NoHand, [("hand", d0)]⟩ :=
  ex_N (r := [d0]) T.x_NoHand T.f_NoHand ht hk rfl rfl (by decide) (fun F a vs zs h1 h2 => by
    rcases h1 with _ | ⟨a0, h1⟩
    cases h1
    cases h2
    exact ⟨_, rfl, (.cons a0 .nil)⟩) rfl (by simp)
theorem ex_Taken_1 (T : Top K mg) {σ : L2.St} {F : Hp} {t tk : TA} {E : XK} {d0 : PyData} (ht : EvVs (RP K) t σ F [d0]) (hk : EvVs (RP K) tk σ F []) : EvV (XAt K) (tXN T.C_Taken 1 ([] : List Str).length (spX K "ValueError.__init__" ["name"]) (fun vs zs => vs ++ []) E t tk) σ F ⟨T.C_Taken, [("name", d0)]⟩ :=
  ex_N (r := [d0]) T.x_Taken T.f_Taken ht hk rfl rfl (by decide) (fun F a vs zs h1 h2 => by
    rcases h1 with _ | ⟨a0, h1⟩
    cases h1
    cases h2
    exact ⟨_, rfl, (.cons a0 .nil)⟩) rfl (by simp)
theorem ex_Wrong_3 (T : Top K mg) {σ : L2.St} {F : Hp} {t tk : TA} {E : XK} {d0 d1 d2 : PyData} (ht : EvVs (RP K) t σ F [d0, d1, d2]) (hk : EvVs (RP K) tk σ F []) : EvV (XAt K) (tXN T.C_Wrong 3 ([] : List Str).length (spX K "ValueError.__init__" ["exchange", "blamed", "wanted"]) (fun vs zs => vs ++ []) E t tk) σ F ⟨T.C_Wrong, [("exchange", d0), ("blamed", d1), ("wanted", d2)]⟩ :=
  ex_N (r := [d0, d1, d2]) T.x_Wrong T.f_Wrong ht hk rfl rfl (by decide) (fun F a vs zs h1 h2 => by
    rcases h1 with _ | ⟨a0, h1⟩
    rcases h1 with _ | ⟨a1, h1⟩
    rcases h1 with _ | ⟨a2, h1⟩
    cases h1
    cases h2
    exact ⟨_, rfl, (.cons a0 (.cons a1 (.cons a2 .nil)))⟩) rfl (by simp)
theorem ex_NoPart_0_hand (T : Top K mg) {σ : L2.St} {F : Hp} {t tk : TA} {E : XK} {k0 : PyData} (ht : EvVs (RP K) t σ F []) (hk : EvVs (RP K) tk σ F [k0]) : EvV (XAt K) (tXN T.C_NoPart 0 ([("hand" : Str)] : List Str).length (spX K "ValueError.__init__" ["hand"]) (fun vs zs => vs ++ ((zs.drop 0).take 1 ++ [])) E t tk) σ F ⟨T.C_NoPart, [("hand", k0)]⟩ :=
  ex_N (r := [k0]) T.x_NoPart T.f_NoPart ht hk rfl rfl (by decide) (fun F a vs zs h1 h2 => by
    cases h1
    rcases h2 with _ | ⟨b0, h2⟩
    cases h2
    exact ⟨_, rfl, (.cons b0 .nil)⟩) rfl (by simp)
theorem ex_NoPlain_0_state (T : Top K mg) {σ : L2.St} {F : Hp} {t tk : TA} {E : XK} {k0 : PyData} (ht : EvVs (RP K) t σ F []) (hk : EvVs (RP K) tk σ F [k0]) : EvV (XAt K) (tXN T.C_NoPlain 0 ([("state" : Str)] : List Str).length (spX K "ValueError.__init__" ["state"]) (fun vs zs => vs ++ ((zs.drop 0).take 1 ++ [])) E t tk) σ F ⟨T.C_NoPlain, [("state", k0)]⟩ :=
  ex_N (r := [k0]) T.x_NoPlain T.f_NoPlain ht hk rfl rfl (by decide) (fun F a vs zs h1 h2 => by
    cases h1
    rcases h2 with _ | ⟨b0, h2⟩
    cases h2
    exact ⟨_, rfl, (.cons b0 .nil)⟩) rfl (by simp)
theorem ex_Unchained_0_other_one (T : Top K mg) {σ : L2.St} {F : Hp} {t tk : TA} {E : XK} {k0 k1 : PyData} (ht : EvVs (RP K) t σ F []) (hk : EvVs (RP K) tk σ F [k0, k1]) : EvV (XAt K) (tXN T.C_Unchained 0 ([("other" : Str), ("one" : Str)] : List Str).length (spX K "ValueError.__init__" ["one", "other"]) (fun vs zs => vs ++ ((zs.drop 1).take 1 ++ ((zs.drop 0).take 1 ++ []))) E t tk) σ F ⟨T.C_Unchained, [("one", k1), ("other", k0)]⟩ :=
  ex_N (r := [k1, k0]) T.x_Unchained T.f_Unchained ht hk rfl rfl (by decide) (fun F a vs zs h1 h2 => by
    cases h1
    rcases h2 with _ | ⟨b0, h2⟩
    rcases h2 with _ | ⟨b1, h2⟩
    cases h2
    exact ⟨_, rfl, (.cons b1 (.cons b0 .nil))⟩) rfl (by simp)
theorem ex_NoTalk_0_why (T : Top K mg) {σ : L2.St} {F : Hp} {t tk : TA} {E : XK} {k0 : PyData} (ht : EvVs (RP K) t σ F []) (hk : EvVs (RP K) tk σ F [k0]) : EvV (XAt K) (tXN T.C_NoTalk 0 ([("why" : Str)] : List Str).length (spX K "ValueError.__init__" ["why"]) (fun vs zs => vs ++ ((zs.drop 0).take 1 ++ [])) E t tk) σ F ⟨T.C_NoTalk, [("why", k0)]⟩ :=
  ex_N (r := [k0]) T.x_NoTalk T.f_NoTalk ht hk rfl rfl (by decide) (fun F a vs zs h1 h2 => by
    cases h1
    rcases h2 with _ | ⟨b0, h2⟩
    cases h2
    exact ⟨_, rfl, (.cons b0 .nil)⟩) rfl (by simp)
theorem ex_Taken_0_name (T : Top K mg) {σ : L2.St} {F : Hp} {t tk : TA} {E : XK} {k0 : PyData} (ht : EvVs (RP K) t σ F []) (hk : EvVs (RP K) tk σ F [k0]) : EvV (XAt K) (tXN T.C_Taken 0 ([("name" : Str)] : List Str).length (spX K "ValueError.__init__" ["name"]) (fun vs zs => vs ++ ((zs.drop 0).take 1 ++ [])) E t tk) σ F ⟨T.C_Taken, [("name", k0)]⟩ :=
  ex_N (r := [k0]) T.x_Taken T.f_Taken ht hk rfl rfl (by decide) (fun F a vs zs h1 h2 => by
    cases h1
    rcases h2 with _ | ⟨b0, h2⟩
    cases h2
    exact ⟨_, rfl, (.cons b0 .nil)⟩) rfl (by simp)
theorem ex_Wrong_0_wanted_exchange_blamed (T : Top K mg) {σ : L2.St} {F : Hp} {t tk : TA} {E : XK} {k0 k1 k2 : PyData} (ht : EvVs (RP K) t σ F []) (hk : EvVs (RP K) tk σ F [k0, k1, k2]) : EvV (XAt K) (tXN T.C_Wrong 0 ([("wanted" : Str), ("exchange" : Str), ("blamed" : Str)] : List Str).length (spX K "ValueError.__init__" ["exchange", "blamed", "wanted"]) (fun vs zs => vs ++ ((zs.drop 1).take 1 ++ ((zs.drop 2).take 1 ++ ((zs.drop 0).take 1 ++ [])))) E t tk) σ F ⟨T.C_Wrong, [("exchange", k1), ("blamed", k2), ("wanted", k0)]⟩ :=
  ex_N (r := [k1, k2, k0]) T.x_Wrong T.f_Wrong ht hk rfl rfl (by decide) (fun F a vs zs h1 h2 => by
    cases h1
    rcases h2 with _ | ⟨b0, h2⟩
    rcases h2 with _ | ⟨b1, h2⟩
    rcases h2 with _ | ⟨b2, h2⟩
    cases h2
    exact ⟨_, rfl, (.cons b1 (.cons b2 (.cons b0 .nil)))⟩) rfl (by simp)
theorem ex_NoProgram_0_row (T : Top K mg) {σ : L2.St} {F : Hp} {t tk : TA} {E : XK} {k0 : PyData} (ht : EvVs (RP K) t σ F []) (hk : EvVs (RP K) tk σ F [k0]) : EvV (XAt K) (tXN T.C_NoProgram 0 ([("row" : Str)] : List Str).length (spX K "ValueError.__init__" ["row"]) (fun vs zs => vs ++ ((zs.drop 0).take 1 ++ [])) E t tk) σ F ⟨T.C_NoProgram, [("row", k0)]⟩ :=
  ex_N (r := [k0]) T.x_NoProgram T.f_NoProgram ht hk rfl rfl (by decide) (fun F a vs zs h1 h2 => by
    cases h1
    rcases h2 with _ | ⟨b0, h2⟩
    cases h2
    exact ⟨_, rfl, (.cons b0 .nil)⟩) rfl (by simp)
theorem ex_NoState_0_state (T : Top K mg) {σ : L2.St} {F : Hp} {t tk : TA} {E : XK} {k0 : PyData} (ht : EvVs (RP K) t σ F []) (hk : EvVs (RP K) tk σ F [k0]) : EvV (XAt K) (tXN T.C_NoState 0 ([("state" : Str)] : List Str).length (spX K "IndexError.__init__" ["state"]) (fun vs zs => vs ++ ((zs.drop 0).take 1 ++ [])) E t tk) σ F ⟨T.C_NoState, [("state", k0)]⟩ :=
  ex_N (r := [k0]) T.x_NoState T.f_NoState ht hk rfl rfl (by decide) (fun F a vs zs h1 h2 => by
    cases h1
    rcases h2 with _ | ⟨b0, h2⟩
    cases h2
    exact ⟨_, rfl, (.cons b0 .nil)⟩) rfl (by simp)
theorem ex_NoName_0_name (T : Top K mg) {σ : L2.St} {F : Hp} {t tk : TA} {E : XK} {k0 : PyData} (ht : EvVs (RP K) t σ F []) (hk : EvVs (RP K) tk σ F [k0]) : EvV (XAt K) (tXN T.C_NoName 0 ([("name" : Str)] : List Str).length (spX K "KeyError.__init__" ["name"]) (fun vs zs => vs ++ ((zs.drop 0).take 1 ++ [])) E t tk) σ F ⟨T.C_NoName, [("name", k0)]⟩ :=
  ex_N (r := [k0]) T.x_NoName T.f_NoName ht hk rfl rfl (by decide) (fun F a vs zs h1 h2 => by
    cases h1
    rcases h2 with _ | ⟨b0, h2⟩
    cases h2
    exact ⟨_, rfl, (.cons b0 .nil)⟩) rfl (by simp)
theorem ex_NoHand_0_hand (T : Top K mg) {σ : L2.St} {F : Hp} {t tk : TA} {E : XK} {k0 : PyData} (ht : EvVs (RP K) t σ F []) (hk : EvVs (RP K) tk σ F [k0]) : EvV (XAt K) (tXN T.C_NoHand 0 ([("hand" : Str)] : List Str).length (spX K "KeyError.__init__" ["hand"]) (fun vs zs => vs ++ ((zs.drop 0).take 1 ++ [])) E t tk) σ F ⟨T.C_NoHand, [("hand", k0)]⟩ :=
  ex_N (r := [k0]) T.x_NoHand T.f_NoHand ht hk rfl rfl (by decide) (fun F a vs zs h1 h2 => by
    cases h1
    rcases h2 with _ | ⟨b0, h2⟩
    cases h2
    exact ⟨_, rfl, (.cons b0 .nil)⟩) rfl (by simp)
theorem ex_Unchained_1 (T : Top K mg) {σ : L2.St} {F : Hp} {t tk : TA} {E : XK} {d0 : PyData} (ht : EvVs (RP K) t σ F [d0]) (hk : EvVs (RP K) tk σ F []) : EvV (XAt K) (tXN T.C_Unchained 1 ([] : List Str).length (spX K "ValueError.__init__" ["one", "other"]) (fun vs zs => vs ++ (([V.non, V.non].drop 1).take 1 ++ [])) E t tk) σ F ⟨T.C_Unchained, [("one", d0), ("other", .none)]⟩ :=
  ex_N (r := [d0, .none]) T.x_Unchained T.f_Unchained ht hk rfl rfl (by decide) (fun F a vs zs h1 h2 => by
    rcases h1 with _ | ⟨a0, h1⟩
    cases h1
    cases h2
    exact ⟨_, rfl, (.cons a0 (.cons Dp.non .nil))⟩) rfl (by simp)
theorem ex_Wrong_1 (T : Top K mg) {σ : L2.St} {F : Hp} {t tk : TA} {E : XK} {d0 : PyData} (ht : EvVs (RP K) t σ F [d0]) (hk : EvVs (RP K) tk σ F []) : EvV (XAt K) (tXN T.C_Wrong 1 ([] : List Str).length (spX K "ValueError.__init__" ["exchange", "blamed", "wanted"]) (fun vs zs => vs ++ (([V.non, V.ref T.e_Wrong_1, V.ref T.e_Wrong_2].drop 1).take 1 ++ (([V.non, V.ref T.e_Wrong_1, V.ref T.e_Wrong_2].drop 2).take 1 ++ []))) E t tk) σ F ⟨T.C_Wrong, [("exchange", d0), ("blamed", .tuple []), ("wanted", .tuple [])]⟩ :=
  ex_N (r := [d0, .tuple [], .tuple []]) T.x_Wrong T.f_Wrong ht hk rfl rfl (by decide) (fun F a vs zs h1 h2 => by
    rcases h1 with _ | ⟨a0, h1⟩
    cases h1
    cases h2
    exact ⟨_, rfl, (.cons a0 (.cons (Dp.tup (T.u_Wrong_1 _) .nil) (.cons (Dp.tup (T.u_Wrong_2 _) .nil) .nil)))⟩) rfl (by simp)
theorem sT {F F1 F2 : Hp} (a : Same F F1) (b : Same F1 F2) : Same F F2 := fun x o e => b _ _ (a _ _ e)
theorem v_asgE {α : Type} {R : Hp → V → α → Prop} {te : TE} {tz : TS} {D : L2.Ends} {σ : L2.St} {F H : Hp} {i : Nat} {x : α} (σ' : V → L2.St) (e : ∀ v, σ.set i (some v) = σ' v) (h : EvV R te σ F x) (s : Same F H) (k : ∀ v F1 H1, Ly.Fr M0 F H F1 H1 → R F1 v x → tz D (σ' v) H1) :
    tSeq (tAsg te (gName i)) tz D σ H := h H s _ fun v F1 H1 f r => by
  show tz D (σ.set i (some v)) H1
  rw [e v]
  exact k v F1 H1 f r
theorem pow9 : CPowW 10 9 := ⟨by decide, by decide⟩
theorem ev_rev3 {te : TE} {σ : L2.St} {F : Hp} {a b c : PyData} (h : EvF te σ F (.tuple [a, b, c])) : EvF (tRev3 K te) σ F (.tuple [c, b, a]) := fun H s Q q =>
  h H s _ fun v F1 H1 f1 dv => by
    obtain ⟨t, xs, rfl, ex, dx⟩ := dv.tupE
    cases dx with
    | @cons v1 _ _ _ d1 dx => cases dx with
      | @cons v2 _ _ _ d2 dx => cases dx with
        | @cons v3 _ _ _ d3 dx =>
          cases dx
          refine ⟨t, v1, v2, v3, rfl, SqT.of (f1.fh _ _ ex), fun p np => ?_⟩
          have fn := Fr.new (M := M0) (o := .tup [v3, v2, v1]) f1.fh np
          exact q _ _ _ (f1.trans fn) (.tup upd_same (.cons (d3.mono fn.ff) (.cons (d2.mono fn.ff) (.cons (d1.mono fn.ff) .nil))))
theorem lot_wp {σ : L2.St} {H : Hp} {Q : VK} {p : Addr} {c : Int} {x : Str} {E : XK} (h1 : σ[1]? = some (some (.ref p))) (h2 : σ[2]? = some (some (.str x))) (hp : Purse H p c) (hc : c + 2 ≤ 1000000)
    (q : ∀ v H2 (ds : List PyData), Dq H2 v (.tuple ds) → (ds = [] ∨ ds = [.str "kim"] ∨ ds = [.str "kim", .str x]) → (∀ b o, H b = some o → b ≠ p → H2 b = some o) → Q v H2) :
    tSl (rSlA K) (tTup (tCons (tC (.str "kim")) (tCons (tVar 2) tNil))) tNoPart (tPart (tCall spDraw [] E (tCons (tVar 1) (tCons (tC (.int 3)) tNil)))) σ H Q := by
  refine ⟨_, h2, (by show 2 ≤ sizeLine; decide), fun t nt => ⟨_, h1, p, 3, c, rfl, by decide, by decide, hp.new nt, hc, fun r H5 c5 r0 r1 kp st hp5 hc5 hc5' => ⟨r, rfl, ?_⟩⟩⟩
  have npt : p ≠ t := hp.ne nt
  have e5 : H5 t = some (.tup [.str "kim", .str x]) := kp t _ upd_same npt.symm
  have k5 : ∀ b o, H b = some o → b ≠ p → H5 b = some o := fun b o e n => kp b o (by rw [upd_ne (ne_of_none e nt)]; exact e) n
  refine ⟨t, _, rfl, SqT.of e5, fun _ => ?_, fun _ u nu => ?_⟩
  · exact q _ H5 [.str "kim", .str x] (.tup e5 (.cons (.str _) (.cons (.str _) .nil))) (.inr (.inr rfl)) k5
  · have k6 : ∀ b o, H b = some o → b ≠ p → (upd H5 u (.tup (cutV [.str "kim", .str x] none (some r)))) b = some o := fun b o e n => by rw [upd_ne (ne_of_none (k5 b o e n) nu)]; exact k5 b o e n
    have hr : r = 0 ∨ r = 1 ∨ r = 2 := by omega
    rcases hr with rfl | rfl | rfl
    · exact q _ _ [] (.tup upd_same .nil) (.inl rfl) k6
    · exact q _ _ [.str "kim"] (.tup upd_same (.cons (.str _) .nil)) (.inr (.inl rfl)) k6
    · exact q _ _ [.str "kim", .str x] (.tup upd_same (.cons (.str _) (.cons (.str _) .nil))) (.inr (.inr rfl)) k6
theorem cls_of {T : Top K mg} {xs : List XD} (h : xs.map XD.C = (csT T).take 19) : Cls T xs := fun i x e => by
  have e2 : (xs.map XD.C)[i]? = some x.C := by rw [List.getElem?_map, e]; rfl
  rw [h, List.getElem?_take] at e2
  by_cases hi : i < 19
  · rw [if_pos hi] at e2
    exact e2
  · rw [if_neg hi] at e2
    cases e2
theorem plainAll_bls (bs : List Bool) : PyData.plainAll (bs.map PyData.bool) = true := plainAll_iff.mpr fun d hd => by
  obtain ⟨b, _, rfl⟩ := List.mem_map.mp hd
  rfl
theorem any_sorts19 : ((sortsD 19).any fun z => PyData.eqv z (.bool true)) = false := by decide +kernel
theorem ne_kinds19 : (!PyData.eqv (.list (kindsD 19)) (.list [.bool true, .bool true, .bool false, .bool false])) = false := by decide +kernel
theorem in_sorts19 {T : Top K mg} {te : TE} {σ : L2.St} {F : Hp} {x : XD} {E : XK} (h : EvV (XAt K) te σ F x) (hc : x.C = T.C_TalkError) : EvF (tOp (rInQ false) (tC (.bl true)) (tCall (spSorts T sortsD) [] E (tCons te tNil))) σ F (.bool false) := by
  have h1 : EvF (tCall (spSorts T sortsD) [] E (tCons te tNil)) σ F (.list (sortsD 19)) := (eo_sorts (i := 19) h (hc ▸ rfl)).f
  have h2 := ev_in (neg := false) (d := .bool true) (e := .list (sortsD 19)) (ds := sortsD 19) ev_bl h1 (.inl rfl) rfl (plainAll_bls _) (Nat.zero_le _)
  rw [if_neg (by decide), any_sorts19] at h2
  exact h2
theorem ne_kinds {T : Top K mg} {te tl : TE} {σ : L2.St} {F : Hp} {x : XD} {E : XK} (h : EvV (XAt K) te σ F x) (hc : x.C = T.C_TalkError) (hl : EvF tl σ F (.list [.bool true, .bool true, .bool false, .bool false])) : EvF (tOp rNeQ (tCall (spSorts T kindsD) [] E (tCons te tNil)) tl) σ F (.bool false) := by
  have h1 : EvF (tCall (spSorts T kindsD) [] E (tCons te tNil)) σ F (.list (kindsD 19)) := (eo_sorts (i := 19) h (hc ▸ rfl)).f
  have h2 := ev_ne h1 hl (kinds_bls 19 ▸ plain_bls _) (plain_bls [true, true, false, false]) (kinds_bls 19 ▸ depth_bls _)
  rw [ne_kinds19] at h2
  exact h2
def spLaw (K : PySem.W.Frag) : Sp := fun vs H Q _ => ∃ (a : Addr) (ns : List Int), vs = [.ref a] ∧ SqL K H a (ns.map V.int) ∧ ns.length ≤ 63 ∧ ∀ H', Q (.bl true) H'
set_option maxHeartbeats 16000000 in
theorem ok_law (T : Top K mg) : FnOk P w K mg base CX0 5 T.a_law T.fd_law ["_law_script"] (spLaw K) := by
  refine T.F_law.ok sc_law (fun vs H Q E h => ?_) (fun cdv A outer s H vs Q E hr h => ?_)
  · obtain ⟨_, _, rfl, _⟩ := h
    rfl
  · obtain ⟨a, ns, rfl, hS, hlen, q⟩ := h
    refine ⟨_, (pss_cons (ps_set (i := 1) sc_law.nd rfl (Or.inl rfl) (pe_call (ok_law_purse T) (hr.mono (by decide)) (by rfl) T.g_law_purse T.F_law_purse.kp T.b_law_purse .nil pass0 (pa_cons (pv 0) (pa_cons pe_int pa_nil))))
 (pss_cons (ps_set (i := 2) sc_law.nd rfl (Or.inl rfl) (pe_slice sl_str pe_str (po_some (pe_call (ok_law_draw T) (hr.mono (by decide)) (by rfl) T.g_law_draw T.F_law_draw.kp T.b_law_draw .nil pass0 (pa_cons (pv 1) (pa_cons pe_int pa_nil)))) po_none))
 (pss_cons (ps_set (i := 3) sc_law.nd rfl (Or.inl rfl) (pe_call (ok_law_draw T) (hr.mono (by decide)) (by rfl) T.g_law_draw T.F_law_draw.kp T.b_law_draw .nil pass0 (pa_cons (pv 1) (pa_cons (pe_op op_powW pe_int pe_int) pa_nil))))
 (pss_cons (ps_set (i := 4) sc_law.nd rfl (Or.inl rfl) (pe_tup (pa_cons (pe_slice sl_str (pv 2) po_none (po_some pe_int)) (pa_cons pe_str (pa_cons pe_str pa_nil)))))
 (pss_cons (ps_set (i := 5) sc_law.nd rfl (Or.inl rfl) (pe_slice sl_tupA (pe_tup (pa_cons pe_str (pa_cons (pv 2) pa_nil))) po_none (po_some (pe_call (ok_law_draw T) (hr.mono (by decide)) (by rfl) T.g_law_draw T.F_law_draw.kp T.b_law_draw .nil pass0 (pa_cons (pv 1) (pa_cons pe_int pa_nil))))))
 (pss_cons (ps_set (i := 6) sc_law.nd rfl (Or.inl rfl) (pe_lst (pa_cons (pe_xB0 T.x_NoMachine T.i_NoMachine (by rfl) T.g_NoMachine) (pa_cons (pe_xB0 T.x_Unclean T.i_Unclean (by rfl) T.g_Unclean) (pa_cons (pe_xB0 T.x_NoLot T.i_NoLot (by rfl) T.g_NoLot) (pa_cons (pe_xB0 T.x_TooMany T.i_TooMany (by rfl) T.g_TooMany) (pa_cons (pe_xB0 T.x_Going T.i_Going (by rfl) T.g_Going) (pa_cons (pe_xB0 T.x_NoDeed T.i_NoDeed (by rfl) T.g_NoDeed) (pa_cons (pe_xB0 T.x_Full T.i_Full (by rfl) T.g_Full) (pa_cons (pe_xB0 T.x_NoText T.i_NoText (by rfl) T.g_NoText) (pa_cons (pe_xB0 T.x_NoLine T.i_NoLine (by rfl) T.g_NoLine) (pa_cons (pe_xK T.x_NoTalk T.i_NoTalk T.t_NoTalk (ok_NoTalk___init__ T) (hr.mono (by decide)) (by rfl) T.g_NoTalk (kb_NoTalk_0 T).choose_spec pass0 pk_nil) pa_nil))))))))))))
 (pss_cons (ps_set (i := 6) sc_law.nd rfl (Or.inl rfl) (pe_op op_cat (pv 6) (pe_lst (pa_cons (pe_xK T.x_Unchained T.i_Unchained T.t_Unchained (ok_Unchained___init__ T) (hr.mono (by decide)) (by rfl) T.g_Unchained (kb_Unchained_0 T).choose_spec pass0 pk_nil) (pa_cons (pe_xK T.x_NoPlain T.i_NoPlain T.t_NoPlain (ok_NoPlain___init__ T) (hr.mono (by decide)) (by rfl) T.g_NoPlain (kb_NoPlain_0 T).choose_spec pass0 pk_nil) (pa_cons (pe_xK T.x_NoPart T.i_NoPart T.t_NoPart (ok_NoPart___init__ T) (hr.mono (by decide)) (by rfl) T.g_NoPart (kb_NoPart_0 T).choose_spec pass0 pk_nil) (pa_cons (pe_xK T.x_NoProgram T.i_NoProgram T.t_NoProgram (ok_NoProgram___init__ T) (hr.mono (by decide)) (by rfl) T.g_NoProgram (kb_NoProgram_0 T).choose_spec pass0 pk_nil) (pa_cons (pe_xK T.x_Wrong T.i_Wrong T.t_Wrong (ok_Wrong___init__ T) (hr.mono (by decide)) (by rfl) T.g_Wrong (kb_Wrong_0 T).choose_spec pass0 pk_nil) (pa_cons (pe_xK T.x_Taken T.i_Taken T.t_Taken (ok_Taken___init__ T) (hr.mono (by decide)) (by rfl) T.g_Taken (kb_Taken_0 T).choose_spec pass0 pk_nil) (pa_cons (pe_xK T.x_NoHand T.i_NoHand T.t_NoHand (ok_NoHand___init__ T) (hr.mono (by decide)) (by rfl) T.g_NoHand (kb_NoHand_0 T).choose_spec pass0 pk_nil) (pa_cons (pe_xK T.x_NoName T.i_NoName T.t_NoName (ok_NoName___init__ T) (hr.mono (by decide)) (by rfl) T.g_NoName (kb_NoName_0 T).choose_spec pass0 pk_nil) (pa_cons (pe_xK T.x_NoState T.i_NoState T.t_NoState (ok_NoState___init__ T) (hr.mono (by decide)) (by rfl) T.g_NoState (kb_NoState_0 T).choose_spec pass0 pk_nil) pa_nil))))))))))))
 (pss_cons (ps_set (i := 7) sc_law.nd rfl (Or.inl rfl) (pe_lst (pa_cons pe_str (pa_cons pe_non (pa_cons pe_non (pa_cons pe_non (pa_cons pe_str (pa_cons pe_non (pa_cons pe_non (pa_cons (pe_tup pa_nil) (pa_cons (pe_tup pa_nil) (pa_cons pe_str (pa_cons pe_str (pa_cons pe_str (pa_cons pe_non pa_nil)))))))))))))))
 (pss_cons (ps_if (PW.pt (pw_or (pt_not (pt_val (pe_call (ok_law_row_right T) (hr.mono (by decide)) (by rfl) T.g_law_row_right T.F_law_row_right.kp T.b_law_row_right .nil pass0 (pa_cons (pv 6) pa_nil)))) (pw_or1 (pt_cmpR (op_neP K rfl hr.units) (pe_call (ok_law_fields T) (hr.mono (by decide)) (by rfl) T.g_law_fields T.F_law_fields.kp T.b_law_fields .nil pass0 (pa_cons (pv 6) pa_nil)) (pv 7) (nomark _))))) (pss_one (ps_ret pe_bl)) pss_nil)
 (pss_cons (ps_set (i := 8) sc_law.nd rfl (Or.inl rfl) (pe_lst (pa_cons (pe_xB T.x_NoMachine T.i_NoMachine (by rfl) T.g_NoMachine (pa_cons (pv 2) pa_nil)) (pa_cons (pe_xB T.x_Unclean T.i_Unclean (by rfl) T.g_Unclean (pa_cons (pv 2) pa_nil)) (pa_cons (pe_xB T.x_NoLot T.i_NoLot (by rfl) T.g_NoLot (pa_cons (pv 2) pa_nil)) (pa_cons (pe_xB T.x_TooMany T.i_TooMany (by rfl) T.g_TooMany (pa_cons (pv 2) pa_nil)) (pa_cons (pe_xB T.x_Going T.i_Going (by rfl) T.g_Going (pa_cons (pv 2) pa_nil)) (pa_cons (pe_xB T.x_NoDeed T.i_NoDeed (by rfl) T.g_NoDeed (pa_cons (pv 2) pa_nil)) (pa_cons (pe_xB T.x_Full T.i_Full (by rfl) T.g_Full (pa_cons (pv 2) pa_nil)) pa_nil)))))))))
 (pss_cons (ps_set (i := 8) sc_law.nd rfl (Or.inl rfl) (pe_op op_cat (pv 8) (pe_lst (pa_cons (pe_xB T.x_NoText T.i_NoText (by rfl) T.g_NoText (pa_cons (pv 2) pa_nil)) (pa_cons (pe_xB T.x_NoLine T.i_NoLine (by rfl) T.g_NoLine (pa_cons (pv 2) pa_nil)) pa_nil)))))
 (pss_cons (ps_set (i := 9) sc_law.nd rfl (Or.inl rfl) (pe_op op_cat (pv 8) (pe_lst (pa_cons (pe_xN T.x_NoTalk T.i_NoTalk T.t_NoTalk (ok_NoTalk___init__ T) (hr.mono (by decide)) (by rfl) T.g_NoTalk (kb_NoTalk_1 T).choose_spec pass0 (pa_cons (pv 2) pa_nil) pk_nil) (pa_cons (pe_xN T.x_Unchained T.i_Unchained T.t_Unchained (ok_Unchained___init__ T) (hr.mono (by decide)) (by rfl) T.g_Unchained (kb_Unchained_2 T).choose_spec pass0 (pa_cons (pv 4) (pa_cons (pe_rev3 K rfl (pv 4)) pa_nil)) pk_nil) (pa_cons (pe_xN T.x_NoPlain T.i_NoPlain T.t_NoPlain (ok_NoPlain___init__ T) (hr.mono (by decide)) (by rfl) T.g_NoPlain (kb_NoPlain_1 T).choose_spec pass0 (pa_cons (pv 3) pa_nil) pk_nil) (pa_cons (pe_xN T.x_NoPart T.i_NoPart T.t_NoPart (ok_NoPart___init__ T) (hr.mono (by decide)) (by rfl) T.g_NoPart (kb_NoPart_1 T).choose_spec pass0 (pa_cons (pv 2) pa_nil) pk_nil) (pa_cons (pe_xN T.x_NoProgram T.i_NoProgram T.t_NoProgram (ok_NoProgram___init__ T) (hr.mono (by decide)) (by rfl) T.g_NoProgram (kb_NoProgram_1 T).choose_spec pass0 (pa_cons (pv 3) pa_nil) pk_nil) pa_nil))))))))
 (pss_cons (ps_set (i := 9) sc_law.nd rfl (Or.inl rfl) (pe_op op_cat (pv 9) (pe_lst (pa_cons (pe_xN T.x_Wrong T.i_Wrong T.t_Wrong (ok_Wrong___init__ T) (hr.mono (by decide)) (by rfl) T.g_Wrong (kb_Wrong_3 T).choose_spec pass0 (pa_cons (pv 4) (pa_cons (pv 5) (pa_cons (pe_tup (pa_cons (pv 4) pa_nil)) pa_nil))) pk_nil) (pa_cons (pe_xN T.x_Taken T.i_Taken T.t_Taken (ok_Taken___init__ T) (hr.mono (by decide)) (by rfl) T.g_Taken (kb_Taken_1 T).choose_spec pass0 (pa_cons (pv 2) pa_nil) pk_nil) (pa_cons (pe_xN T.x_NoHand T.i_NoHand T.t_NoHand (ok_NoHand___init__ T) (hr.mono (by decide)) (by rfl) T.g_NoHand (kb_NoHand_1 T).choose_spec pass0 (pa_cons (pv 2) pa_nil) pk_nil) (pa_cons (pe_xN T.x_NoName T.i_NoName T.t_NoName (ok_NoName___init__ T) (hr.mono (by decide)) (by rfl) T.g_NoName (kb_NoName_1 T).choose_spec pass0 (pa_cons (pv 2) pa_nil) pk_nil) (pa_cons (pe_xN T.x_NoState T.i_NoState T.t_NoState (ok_NoState___init__ T) (hr.mono (by decide)) (by rfl) T.g_NoState (kb_NoState_1 T).choose_spec pass0 (pa_cons (pv 3) pa_nil) pk_nil) pa_nil))))))))
 (pss_cons (ps_set (i := 10) sc_law.nd rfl (Or.inl rfl) (pe_lst (pa_cons (pv 2) (pa_cons (pv 4) (pa_cons (pe_rev3 K rfl (pv 4)) (pa_cons (pv 3) (pa_cons (pv 2) (pa_cons (pv 3) (pa_cons (pv 4) (pa_cons (pv 5) (pa_cons (pe_tup (pa_cons (pv 4) pa_nil)) (pa_cons (pv 2) (pa_cons (pv 2) (pa_cons (pv 2) (pa_cons (pv 3) pa_nil)))))))))))))))
 (pss_cons (ps_if (PW.pt (pw_or (pt_not (pt_val (pe_call (ok_law_row_right T) (hr.mono (by decide)) (by rfl) T.g_law_row_right T.F_law_row_right.kp T.b_law_row_right .nil pass0 (pa_cons (pv 9) pa_nil)))) (pw_or1 (pt_cmpR (op_neP K rfl hr.units) (pe_call (ok_law_fields T) (hr.mono (by decide)) (by rfl) T.g_law_fields T.F_law_fields.kp T.b_law_fields .nil pass0 (pa_cons (pv 9) pa_nil)) (pv 10) (nomark _))))) (pss_one (ps_ret pe_bl)) pss_nil)
 (pss_cons (ps_set (i := 9) sc_law.nd rfl (Or.inl rfl) (pe_op op_cat (pv 8) (pe_lst (pa_cons (pe_xK T.x_NoTalk T.i_NoTalk T.t_NoTalk (ok_NoTalk___init__ T) (hr.mono (by decide)) (by rfl) T.g_NoTalk (kb_NoTalk_0_why T).choose_spec pass0 (pk_cons (pv 2) pk_nil)) (pa_cons (pe_xK T.x_Unchained T.i_Unchained T.t_Unchained (ok_Unchained___init__ T) (hr.mono (by decide)) (by rfl) T.g_Unchained (kb_Unchained_0_other_one T).choose_spec pass0 (pk_cons (pe_rev3 K rfl (pv 4)) (pk_cons (pv 4) pk_nil))) (pa_cons (pe_xK T.x_NoPlain T.i_NoPlain T.t_NoPlain (ok_NoPlain___init__ T) (hr.mono (by decide)) (by rfl) T.g_NoPlain (kb_NoPlain_0_state T).choose_spec pass0 (pk_cons (pv 3) pk_nil)) (pa_cons (pe_xK T.x_NoPart T.i_NoPart T.t_NoPart (ok_NoPart___init__ T) (hr.mono (by decide)) (by rfl) T.g_NoPart (kb_NoPart_0_hand T).choose_spec pass0 (pk_cons (pv 2) pk_nil)) pa_nil)))))))
 (pss_cons (ps_set (i := 9) sc_law.nd rfl (Or.inl rfl) (pe_op op_cat (pv 9) (pe_lst (pa_cons (pe_xK T.x_NoProgram T.i_NoProgram T.t_NoProgram (ok_NoProgram___init__ T) (hr.mono (by decide)) (by rfl) T.g_NoProgram (kb_NoProgram_0_row T).choose_spec pass0 (pk_cons (pv 3) pk_nil)) (pa_cons (pe_xK T.x_Wrong T.i_Wrong T.t_Wrong (ok_Wrong___init__ T) (hr.mono (by decide)) (by rfl) T.g_Wrong (kb_Wrong_0_wanted_exchange_blamed T).choose_spec pass0 (pk_cons (pe_tup (pa_cons (pv 4) pa_nil)) (pk_cons (pv 4) (pk_cons (pv 5) pk_nil)))) (pa_cons (pe_xK T.x_Taken T.i_Taken T.t_Taken (ok_Taken___init__ T) (hr.mono (by decide)) (by rfl) T.g_Taken (kb_Taken_0_name T).choose_spec pass0 (pk_cons (pv 2) pk_nil)) pa_nil))))))
 (pss_cons (ps_set (i := 9) sc_law.nd rfl (Or.inl rfl) (pe_op op_cat (pv 9) (pe_lst (pa_cons (pe_xK T.x_NoHand T.i_NoHand T.t_NoHand (ok_NoHand___init__ T) (hr.mono (by decide)) (by rfl) T.g_NoHand (kb_NoHand_0_hand T).choose_spec pass0 (pk_cons (pv 2) pk_nil)) (pa_cons (pe_xK T.x_NoName T.i_NoName T.t_NoName (ok_NoName___init__ T) (hr.mono (by decide)) (by rfl) T.g_NoName (kb_NoName_0_name T).choose_spec pass0 (pk_cons (pv 2) pk_nil)) (pa_cons (pe_xK T.x_NoState T.i_NoState T.t_NoState (ok_NoState___init__ T) (hr.mono (by decide)) (by rfl) T.g_NoState (kb_NoState_0_state T).choose_spec pass0 (pk_cons (pv 3) pk_nil)) pa_nil))))))
 (pss_cons (ps_if (PW.pt (pw_or (pt_not (pt_val (pe_call (ok_law_row_right T) (hr.mono (by decide)) (by rfl) T.g_law_row_right T.F_law_row_right.kp T.b_law_row_right .nil pass0 (pa_cons (pv 9) pa_nil)))) (pw_or (pt_cmpR (op_neP K rfl hr.units) (pe_call (ok_law_fields T) (hr.mono (by decide)) (by rfl) T.g_law_fields T.F_law_fields.kp T.b_law_fields .nil pass0 (pa_cons (pv 9) pa_nil)) (pv 10) (nomark _)) (pw_or1 (pt_cmpR (op_neP K rfl hr.units) (pe_call (ok_law_fields T) (hr.mono (by decide)) (by rfl) T.g_law_fields T.F_law_fields.kp T.b_law_fields .nil pass0 (pa_cons (pv 6) pa_nil)) (pv 7) (nomark _)))))) (pss_one (ps_ret pe_bl)) pss_nil)
 (pss_cons (ps_if (PW.pt (pw_or (pt_cmpR (op_inQ hr.units) pe_bl (pe_call (ok_law_sorts T) (hr.mono (by decide)) (by rfl) T.g_law_sorts T.F_law_sorts.kp T.b_law_sorts .nil pass0 (pa_cons (pe_xB0 T.x_TalkError T.i_TalkError (by rfl) T.g_TalkError) pa_nil)) (by rfl)) (pw_or1 (pt_cmpR (op_neQ hr.units) (pe_call (ok_law_kinds T) (hr.mono (by decide)) (by rfl) T.g_law_kinds T.F_law_kinds.kp T.b_law_kinds .nil pass0 (pa_cons (pe_xB T.x_TalkError T.i_TalkError (by rfl) T.g_TalkError (pa_cons (pv 2) pa_nil)) pa_nil)) (pe_lst (pa_cons pe_bl (pa_cons pe_bl (pa_cons pe_bl (pa_cons pe_bl pa_nil))))) (nomark _))))) (pss_one (ps_ret pe_bl)) pss_nil)
 (pss_one (ps_ret (pe_cmpR (op_eqP K rfl hr.units) (pe_lst (pa_cons (pe_xfld (pe_xN T.x_Wrong T.i_Wrong T.t_Wrong (ok_Wrong___init__ T) (hr.mono (by decide)) (by rfl) T.g_Wrong (kb_Wrong_1 T).choose_spec pass0 (pa_cons (pv 4) pa_nil) pk_nil)) (pa_cons (pe_xfld (pe_xN T.x_Wrong T.i_Wrong T.t_Wrong (ok_Wrong___init__ T) (hr.mono (by decide)) (by rfl) T.g_Wrong (kb_Wrong_1 T).choose_spec pass0 (pa_cons (pv 4) pa_nil) pk_nil)) (pa_cons (pe_xfld (pe_xN T.x_Unchained T.i_Unchained T.t_Unchained (ok_Unchained___init__ T) (hr.mono (by decide)) (by rfl) T.g_Unchained (kb_Unchained_1 T).choose_spec pass0 (pa_cons (pv 4) pa_nil) pk_nil)) pa_nil)))) (pe_lst (pa_cons (pe_tup pa_nil) (pa_cons (pe_tup pa_nil) (pa_cons pe_non pa_nil)))) (nomark _)))))))))))))))))))))))), ?_⟩
    refine s_wp ?_
    refine ⟨_, rfl, a, ns, 0, rfl, hS, by decide, by decide, fun p H1 np s1 hp => ?_⟩
    refine s_wp ?_
    refine ⟨_, rfl, p, 9, _, rfl, by decide, by decide, hp, by decide, fun r1 H2 c2 r10 r11 kp2 st2 hp2 hc2 hc2' => ⟨r1, rfl, "abcxyz >:", rfl, by decide, ?_⟩⟩
    have lx : (cutS "abcxyz >:" (some r1) none).length ≤ 9 := cutS_length _ _ _
    generalize cutS "abcxyz >:" (some r1) none = x at lx ⊢
    refine s_wp ?_
    refine ⟨_, rfl, _, _, rfl, rfl, pow9, p, _, c2, rfl, by decide, by decide, hp2, by omega, fun far H3 c3 f0 f1 kp3 st3 hp3 hc3 hc3' => ?_⟩
    refine s_wp ?_
    refine ⟨_, rfl, 1, rfl, x, rfl, Nat.le_trans lx (by decide), (by show 3 ≤ sizeLine; decide), fun ta na => ?_⟩
    generalize cutS x none (some 1) = z
    have da : Dq (upd H3 ta (.tup [.str z, .str "b", .str "no"])) (.ref ta) (.tuple [.str z, .str "b", .str "no"]) := .tup upd_same (.cons (.str _) (.cons (.str _) (.cons (.str _) .nil)))
    have ea : (upd H3 ta (.tup [.str z, .str "b", .str "no"])) ta = some (.tup [.str z, .str "b", .str "no"]) := upd_same
    have hp4 := hp3.new (o := .tup [.str z, .str "b", .str "no"]) na
    have npa : p ≠ ta := hp3.ne na
    generalize upd H3 ta (HO.tup [V.str z, V.str "b", V.str "no"]) = H4 at da ea hp4 ⊢
    refine s_wp ?_
    refine lot_wp rfl rfl hp4 (by omega) fun vl H ds dl hds kp => ?_
    have da : Dq H (.ref ta) (.tuple [.str z, .str "b", .str "no"]) := .tup (kp _ _ ea npa.symm) (.cons (.str _) (.cons (.str _) (.cons (.str _) .nil)))
    have pl : (PyData.tuple ds).plain = true ∧ (PyData.tuple ds).depth ≤ 1 := by
      rcases hds with rfl | rfl | rfl
      · exact ⟨rfl, by decide⟩
      · exact ⟨rfl, Nat.le_refl _⟩
      · exact ⟨rfl, Nat.le_refl _⟩
    obtain ⟨pl, dpl⟩ := pl
    generalize PyData.tuple ds = L at dl pl dpl
    have sF : Same H H := fun _ _ e => e
    have m := XAt.mon (K := K)
    have mp := RP.mon (K := K)
    clear hp4 ea kp hds
    obtain ⟨A, hA⟩ : ∃ A, A = PyData.tuple [.str z, .str "b", .str "no"] := ⟨_, rfl⟩
    obtain ⟨AR, hAR⟩ : ∃ A, A = PyData.tuple [.str "no", .str "b", .str z] := ⟨_, rfl⟩
    obtain ⟨W, hW⟩ : ∃ W, W = PyData.tuple [A] := ⟨_, rfl⟩
    have pA : A.plain = true := by rw [hA]; rfl
    have pAR : AR.plain = true := by rw [hAR]; rfl
    have pW : W.plain = true := by rw [hW, hA]; rfl
    have dpA : A.depth ≤ 2 := by rw [hA]; exact (by decide : 1 ≤ 2)
    have dpAR : AR.depth ≤ 2 := by rw [hAR]; exact (by decide : 1 ≤ 2)
    have dpW : W.depth ≤ 2 := by rw [hW, hA]; exact (by decide : 2 ≤ 2)
    have n0 : ([] : List PyData).length ≤ 1000 := by simp
    have n1 : ([PyData.str x] : List PyData).length ≤ 1000 := by simp
    have kx : ∀ {F1 : Hp} {σ : L2.St}, σ[2]? = some (some (.str x)) → EvV (RP K) (tVar 2) σ F1 (.str x) := fun e => vr_var e (Dp.str x)
    have kf : ∀ {F1 : Hp} {σ : L2.St}, σ[3]? = some (some (.int far)) → EvV (RP K) (tVar 3) σ F1 (.int far) := fun e => vr_var e (Dp.int far)
    have ka : ∀ {F1 : Hp} {σ : L2.St}, Same H F1 → σ[4]? = some (some (.ref ta)) → EvV (RP K) (tVar 4) σ F1 A := fun s e => vr_var e (Dq.dp (by rw [hA]; exact da.mono s) pA)
    have kr : ∀ {F1 : Hp} {σ : L2.St}, Same H F1 → σ[4]? = some (some (.ref ta)) → EvV (RP K) (tRev3 K (tVar 4)) σ F1 AR := fun {F1 σ} s e => by
      have h1 : EvF (tRev3 K (tVar 4)) σ F1 (.tuple [.str "no", .str "b", .str z]) := ev_rev3 (ev_var e (da.mono s))
      rw [← hAR] at h1
      exact vp_of h1 pAR
    have kl : ∀ {F1 : Hp} {σ : L2.St}, Same H F1 → σ[5]? = some (some vl) → EvV (RP K) (tVar 5) σ F1 L := fun s e => vr_var e (Dq.dp (dl.mono s) pl)
    have kw : ∀ {F1 : Hp} {σ : L2.St}, Same H F1 → σ[4]? = some (some (.ref ta)) → EvV (RP K) (tTup (tCons (tVar 4) tNil)) σ F1 W := fun s e => by
      rw [hW]
      exact vp_tup (vs_cons mp (ka s e) vs_nil) (by simp)
    have plR : (PyData.list [.str x, A, AR, .int far, .str x, .int far, A, L, W, .str x, .str x, .str x, .int far]).plain = true := by simp [PyData.plain, PyData.plainAll, pl, pA, pAR, pW]
    have dpR : (PyData.list [.str x, A, AR, .int far, .str x, .int far, A, L, W, .str x, .str x, .str x, .int far]).depth ≤ 60 := by
      simp [PyData.depth, PyData.depthAll]
      omega
    clear hA hAR hW pA pAR pW dpA dpAR dpW pl dpl lx da dl
    refine v_asgE (fun v => [some (.ref a), some (.ref p), some (.str x), some (.int far), some (.ref ta), some vl, some v, none, none, none, none]) (fun _ => rfl) (EvN.f m (vn_lst (xs := [⟨T.C_NoMachine, []⟩, ⟨T.C_Unclean, []⟩, ⟨T.C_NoLot, []⟩, ⟨T.C_TooMany, []⟩, ⟨T.C_Going, []⟩, ⟨T.C_NoDeed, []⟩, ⟨T.C_Full, []⟩, ⟨T.C_NoText, []⟩, ⟨T.C_NoLine, []⟩, ⟨T.C_NoTalk, [("why", .str "")]⟩]) (vs_cons m (ex_B T.x_NoMachine vs_nil n0) (vs_cons m (ex_B T.x_Unclean vs_nil n0) (vs_cons m (ex_B T.x_NoLot vs_nil n0) (vs_cons m (ex_B T.x_TooMany vs_nil n0) (vs_cons m (ex_B T.x_Going vs_nil n0) (vs_cons m (ex_B T.x_NoDeed vs_nil n0) (vs_cons m (ex_B T.x_Full vs_nil n0) (vs_cons m (ex_B T.x_NoText vs_nil n0) (vs_cons m (ex_B T.x_NoLine vs_nil n0) (vs_cons m (ex_NoTalk_0 T vs_nil vs_nil) vs_nil)))))))))) (by simp))) sF fun v1 F1 H1 g1 b1 => ?_
    refine v_asgE (fun v => [some (.ref a), some (.ref p), some (.str x), some (.int far), some (.ref ta), some vl, some v, none, none, none, none]) (fun _ => rfl) (EvN.f m (vn_cat m (xs := [⟨T.C_NoMachine, []⟩, ⟨T.C_Unclean, []⟩, ⟨T.C_NoLot, []⟩, ⟨T.C_TooMany, []⟩, ⟨T.C_Going, []⟩, ⟨T.C_NoDeed, []⟩, ⟨T.C_Full, []⟩, ⟨T.C_NoText, []⟩, ⟨T.C_NoLine, []⟩, ⟨T.C_NoTalk, [("why", .str "")]⟩]) (ys := [⟨T.C_Unchained, [("one", .none), ("other", .none)]⟩, ⟨T.C_NoPlain, [("state", .none)]⟩, ⟨T.C_NoPart, [("hand", .str "")]⟩, ⟨T.C_NoProgram, [("row", .none)]⟩, ⟨T.C_Wrong, [("exchange", .none), ("blamed", .tuple []), ("wanted", .tuple [])]⟩, ⟨T.C_Taken, [("name", .str "")]⟩, ⟨T.C_NoHand, [("hand", .str "")]⟩, ⟨T.C_NoName, [("name", .str "")]⟩, ⟨T.C_NoState, [("state", .none)]⟩]) (vr_var rfl b1) (EvN.f m (vn_lst (xs := [⟨T.C_Unchained, [("one", .none), ("other", .none)]⟩, ⟨T.C_NoPlain, [("state", .none)]⟩, ⟨T.C_NoPart, [("hand", .str "")]⟩, ⟨T.C_NoProgram, [("row", .none)]⟩, ⟨T.C_Wrong, [("exchange", .none), ("blamed", .tuple []), ("wanted", .tuple [])]⟩, ⟨T.C_Taken, [("name", .str "")]⟩, ⟨T.C_NoHand, [("hand", .str "")]⟩, ⟨T.C_NoName, [("name", .str "")]⟩, ⟨T.C_NoState, [("state", .none)]⟩]) (vs_cons m (ex_Unchained_0 T vs_nil vs_nil) (vs_cons m (ex_NoPlain_0 T vs_nil vs_nil) (vs_cons m (ex_NoPart_0 T vs_nil vs_nil) (vs_cons m (ex_NoProgram_0 T vs_nil vs_nil) (vs_cons m (ex_Wrong_0 T vs_nil vs_nil) (vs_cons m (ex_Taken_0 T vs_nil vs_nil) (vs_cons m (ex_NoHand_0 T vs_nil vs_nil) (vs_cons m (ex_NoName_0 T vs_nil vs_nil) (vs_cons m (ex_NoState_0 T vs_nil vs_nil) vs_nil))))))))) (by simp))) (by simp))) g1.fh fun v2 F2 H2 g2 b2 => ?_
    refine v_asgE (fun v => [some (.ref a), some (.ref p), some (.str x), some (.int far), some (.ref ta), some vl, some v2, some v, none, none, none]) (fun _ => rfl) (R := RP K) (x := .list [.str "", .none, .none, .none, .str "", .none, .none, .tuple [], .tuple [], .str "", .str "", .str "", .none]) (vp_of (eo_lst (ea_cons ev_str (ea_cons ev_non (ea_cons ev_non (ea_cons ev_non (ea_cons ev_str (ea_cons ev_non (ea_cons ev_non (ea_cons (ev_tup ea_nil (by simp)) (ea_cons (ev_tup ea_nil (by simp)) (ea_cons ev_str (ea_cons ev_str (ea_cons ev_str (ea_cons ev_non ea_nil))))))))))))) (by simp)).f rfl) g2.fh fun v3 F3 H3 g3 dn => ?_
    have b3 := m.lr _ _ _ _ g3.ff b2
    refine s_when (b := false) ((et_or (et_not (et_B (ev_row (vr_var rfl b3) (cls_of rfl) rfl))) fun _ => et_test (vp_ne (vp_fields (vr_var rfl b3) (cls_of rfl) ⟨⟨_, rfl, .head _⟩, ⟨_, rfl, .head _⟩, ⟨_, rfl, .tail _ (.head _)⟩, ⟨_, rfl, .head _⟩, ⟨_, rfl, .head _⟩, ⟨_, rfl, .head _⟩, ⟨_, rfl, .head _⟩, ⟨_, rfl, .tail _ (.head _)⟩, ⟨_, rfl, .tail _ (.tail _ (.head _))⟩, ⟨_, rfl, .head _⟩, ⟨_, rfl, .head _⟩, ⟨_, rfl, .head _⟩, ⟨_, rfl, .head _⟩⟩) (vr_var rfl dn) rfl rfl (by decide))).is ?_) g3.fh (fun z => (nomatch z)) fun _ F4 H4 g4 => ?_
    · rw [ne_self rfl]
      rfl
    have t4 := sT (sT g1.ff (sT g2.ff g3.ff)) g4.ff
    refine v_asgE (fun v => [some (.ref a), some (.ref p), some (.str x), some (.int far), some (.ref ta), some vl, some v2, some v3, some v, none, none]) (fun _ => rfl) (EvN.f m (vn_lst (xs := [⟨T.C_NoMachine, []⟩, ⟨T.C_Unclean, []⟩, ⟨T.C_NoLot, []⟩, ⟨T.C_TooMany, []⟩, ⟨T.C_Going, []⟩, ⟨T.C_NoDeed, []⟩, ⟨T.C_Full, []⟩]) (vs_cons m (ex_B T.x_NoMachine (vs_cons mp (kx rfl) vs_nil) n1) (vs_cons m (ex_B T.x_Unclean (vs_cons mp (kx rfl) vs_nil) n1) (vs_cons m (ex_B T.x_NoLot (vs_cons mp (kx rfl) vs_nil) n1) (vs_cons m (ex_B T.x_TooMany (vs_cons mp (kx rfl) vs_nil) n1) (vs_cons m (ex_B T.x_Going (vs_cons mp (kx rfl) vs_nil) n1) (vs_cons m (ex_B T.x_NoDeed (vs_cons mp (kx rfl) vs_nil) n1) (vs_cons m (ex_B T.x_Full (vs_cons mp (kx rfl) vs_nil) n1) vs_nil))))))) (by simp))) g4.fh fun v5 F5 H5 g5 p1 => ?_
    refine v_asgE (fun v => [some (.ref a), some (.ref p), some (.str x), some (.int far), some (.ref ta), some vl, some v2, some v3, some v, none, none]) (fun _ => rfl) (EvN.f m (vn_cat m (xs := [⟨T.C_NoMachine, []⟩, ⟨T.C_Unclean, []⟩, ⟨T.C_NoLot, []⟩, ⟨T.C_TooMany, []⟩, ⟨T.C_Going, []⟩, ⟨T.C_NoDeed, []⟩, ⟨T.C_Full, []⟩]) (ys := [⟨T.C_NoText, []⟩, ⟨T.C_NoLine, []⟩]) (vr_var rfl p1) (EvN.f m (vn_lst (xs := [⟨T.C_NoText, []⟩, ⟨T.C_NoLine, []⟩]) (vs_cons m (ex_B T.x_NoText (vs_cons mp (kx rfl) vs_nil) n1) (vs_cons m (ex_B T.x_NoLine (vs_cons mp (kx rfl) vs_nil) n1) vs_nil)) (by simp))) (by simp))) g5.fh fun v6 F6 H6 g6 p2 => ?_
    have t6 := sT t4 (sT g5.ff g6.ff)
    refine v_asgE (fun v => [some (.ref a), some (.ref p), some (.str x), some (.int far), some (.ref ta), some vl, some v2, some v3, some v6, some v, none]) (fun _ => rfl) (EvN.f m (vn_cat m (xs := [⟨T.C_NoMachine, []⟩, ⟨T.C_Unclean, []⟩, ⟨T.C_NoLot, []⟩, ⟨T.C_TooMany, []⟩, ⟨T.C_Going, []⟩, ⟨T.C_NoDeed, []⟩, ⟨T.C_Full, []⟩, ⟨T.C_NoText, []⟩, ⟨T.C_NoLine, []⟩]) (ys := [⟨T.C_NoTalk, [("why", .str x)]⟩, ⟨T.C_Unchained, [("one", A), ("other", AR)]⟩, ⟨T.C_NoPlain, [("state", .int far)]⟩, ⟨T.C_NoPart, [("hand", .str x)]⟩, ⟨T.C_NoProgram, [("row", .int far)]⟩]) (vr_var rfl p2) (EvN.f m (vn_lst (xs := [⟨T.C_NoTalk, [("why", .str x)]⟩, ⟨T.C_Unchained, [("one", A), ("other", AR)]⟩, ⟨T.C_NoPlain, [("state", .int far)]⟩, ⟨T.C_NoPart, [("hand", .str x)]⟩, ⟨T.C_NoProgram, [("row", .int far)]⟩]) (vs_cons m (ex_NoTalk_1 T (vs_cons mp (kx rfl) vs_nil) vs_nil) (vs_cons m (ex_Unchained_2 T (vs_cons mp (ka t6 rfl) (vs_cons mp (kr t6 rfl) vs_nil)) vs_nil) (vs_cons m (ex_NoPlain_1 T (vs_cons mp (kf rfl) vs_nil) vs_nil) (vs_cons m (ex_NoPart_1 T (vs_cons mp (kx rfl) vs_nil) vs_nil) (vs_cons m (ex_NoProgram_1 T (vs_cons mp (kf rfl) vs_nil) vs_nil) vs_nil))))) (by simp))) (by simp))) g6.fh fun v7 F7 H7 g7 q1 => ?_
    have t7 := sT t6 g7.ff
    refine v_asgE (fun v => [some (.ref a), some (.ref p), some (.str x), some (.int far), some (.ref ta), some vl, some v2, some v3, some v6, some v, none]) (fun _ => rfl) (EvN.f m (vn_cat m (xs := [⟨T.C_NoMachine, []⟩, ⟨T.C_Unclean, []⟩, ⟨T.C_NoLot, []⟩, ⟨T.C_TooMany, []⟩, ⟨T.C_Going, []⟩, ⟨T.C_NoDeed, []⟩, ⟨T.C_Full, []⟩, ⟨T.C_NoText, []⟩, ⟨T.C_NoLine, []⟩, ⟨T.C_NoTalk, [("why", .str x)]⟩, ⟨T.C_Unchained, [("one", A), ("other", AR)]⟩, ⟨T.C_NoPlain, [("state", .int far)]⟩, ⟨T.C_NoPart, [("hand", .str x)]⟩, ⟨T.C_NoProgram, [("row", .int far)]⟩]) (ys := [⟨T.C_Wrong, [("exchange", A), ("blamed", L), ("wanted", W)]⟩, ⟨T.C_Taken, [("name", .str x)]⟩, ⟨T.C_NoHand, [("hand", .str x)]⟩, ⟨T.C_NoName, [("name", .str x)]⟩, ⟨T.C_NoState, [("state", .int far)]⟩]) (vr_var rfl q1) (EvN.f m (vn_lst (xs := [⟨T.C_Wrong, [("exchange", A), ("blamed", L), ("wanted", W)]⟩, ⟨T.C_Taken, [("name", .str x)]⟩, ⟨T.C_NoHand, [("hand", .str x)]⟩, ⟨T.C_NoName, [("name", .str x)]⟩, ⟨T.C_NoState, [("state", .int far)]⟩]) (vs_cons m (ex_Wrong_3 T (vs_cons mp (ka t7 rfl) (vs_cons mp (kl t7 rfl) (vs_cons mp (kw t7 rfl) vs_nil))) vs_nil) (vs_cons m (ex_Taken_1 T (vs_cons mp (kx rfl) vs_nil) vs_nil) (vs_cons m (ex_NoHand_1 T (vs_cons mp (kx rfl) vs_nil) vs_nil) (vs_cons m (ex_NoName_1 T (vs_cons mp (kx rfl) vs_nil) vs_nil) (vs_cons m (ex_NoState_1 T (vs_cons mp (kf rfl) vs_nil) vs_nil) vs_nil))))) (by simp))) (by simp))) g7.fh fun v8 F8 H8 g8 q2 => ?_
    have t8 := sT t7 g8.ff
    refine v_asgE (fun v => [some (.ref a), some (.ref p), some (.str x), some (.int far), some (.ref ta), some vl, some v2, some v3, some v6, some v8, some v]) (fun _ => rfl) (R := RP K) (x := .list [.str x, A, AR, .int far, .str x, .int far, A, L, W, .str x, .str x, .str x, .int far]) (vp_lst (EvN.f mp (vn_lst (vs_cons mp (kx rfl) (vs_cons mp (ka t8 rfl) (vs_cons mp (kr t8 rfl) (vs_cons mp (kf rfl) (vs_cons mp (kx rfl) (vs_cons mp (kf rfl) (vs_cons mp (ka t8 rfl) (vs_cons mp (kl t8 rfl) (vs_cons mp (kw t8 rfl) (vs_cons mp (kx rfl) (vs_cons mp (kx rfl) (vs_cons mp (kx rfl) (vs_cons mp (kf rfl) vs_nil))))))))))))) (by simp)))) g8.fh fun v9 F9 H9 g9 dr => ?_
    have q3 := m.lr _ _ _ _ g9.ff q2
    refine s_when (b := false) ((et_or (et_not (et_B (ev_row (vr_var rfl q3) (cls_of rfl) rfl))) fun _ => et_test (vp_ne (vp_fields (vr_var rfl q3) (cls_of rfl) ⟨⟨_, rfl, .head _⟩, ⟨_, rfl, .head _⟩, ⟨_, rfl, .tail _ (.head _)⟩, ⟨_, rfl, .head _⟩, ⟨_, rfl, .head _⟩, ⟨_, rfl, .head _⟩, ⟨_, rfl, .head _⟩, ⟨_, rfl, .tail _ (.head _)⟩, ⟨_, rfl, .tail _ (.tail _ (.head _))⟩, ⟨_, rfl, .head _⟩, ⟨_, rfl, .head _⟩, ⟨_, rfl, .head _⟩, ⟨_, rfl, .head _⟩⟩) (vr_var rfl dr) plR plR dpR)).is ?_) g9.fh (fun z => (nomatch z)) fun _ F10 H10 g10 => ?_
    · rw [ne_self plR]
      rfl
    have t10 := sT t8 (sT g9.ff g10.ff)
    have p10 := m.lr _ _ _ _ (sT g7.ff (sT g8.ff (sT g9.ff g10.ff))) p2
    refine v_asgE (fun v => [some (.ref a), some (.ref p), some (.str x), some (.int far), some (.ref ta), some vl, some v2, some v3, some v6, some v, some v9]) (fun _ => rfl) (EvN.f m (vn_cat m (xs := [⟨T.C_NoMachine, []⟩, ⟨T.C_Unclean, []⟩, ⟨T.C_NoLot, []⟩, ⟨T.C_TooMany, []⟩, ⟨T.C_Going, []⟩, ⟨T.C_NoDeed, []⟩, ⟨T.C_Full, []⟩, ⟨T.C_NoText, []⟩, ⟨T.C_NoLine, []⟩]) (ys := [⟨T.C_NoTalk, [("why", .str x)]⟩, ⟨T.C_Unchained, [("one", A), ("other", AR)]⟩, ⟨T.C_NoPlain, [("state", .int far)]⟩, ⟨T.C_NoPart, [("hand", .str x)]⟩]) (vr_var rfl p10) (EvN.f m (vn_lst (xs := [⟨T.C_NoTalk, [("why", .str x)]⟩, ⟨T.C_Unchained, [("one", A), ("other", AR)]⟩, ⟨T.C_NoPlain, [("state", .int far)]⟩, ⟨T.C_NoPart, [("hand", .str x)]⟩]) (vs_cons m (ex_NoTalk_0_why T vs_nil (vs_cons mp (kx rfl) vs_nil)) (vs_cons m (ex_Unchained_0_other_one T vs_nil (vs_cons mp (kr t10 rfl) (vs_cons mp (ka t10 rfl) vs_nil))) (vs_cons m (ex_NoPlain_0_state T vs_nil (vs_cons mp (kf rfl) vs_nil)) (vs_cons m (ex_NoPart_0_hand T vs_nil (vs_cons mp (kx rfl) vs_nil)) vs_nil)))) (by simp))) (by simp))) g10.fh fun v11 F11 H11 g11 r1 => ?_
    have t11 := sT t10 g11.ff
    refine v_asgE (fun v => [some (.ref a), some (.ref p), some (.str x), some (.int far), some (.ref ta), some vl, some v2, some v3, some v6, some v, some v9]) (fun _ => rfl) (EvN.f m (vn_cat m (xs := [⟨T.C_NoMachine, []⟩, ⟨T.C_Unclean, []⟩, ⟨T.C_NoLot, []⟩, ⟨T.C_TooMany, []⟩, ⟨T.C_Going, []⟩, ⟨T.C_NoDeed, []⟩, ⟨T.C_Full, []⟩, ⟨T.C_NoText, []⟩, ⟨T.C_NoLine, []⟩, ⟨T.C_NoTalk, [("why", .str x)]⟩, ⟨T.C_Unchained, [("one", A), ("other", AR)]⟩, ⟨T.C_NoPlain, [("state", .int far)]⟩, ⟨T.C_NoPart, [("hand", .str x)]⟩]) (ys := [⟨T.C_NoProgram, [("row", .int far)]⟩, ⟨T.C_Wrong, [("exchange", A), ("blamed", L), ("wanted", W)]⟩, ⟨T.C_Taken, [("name", .str x)]⟩]) (vr_var rfl r1) (EvN.f m (vn_lst (xs := [⟨T.C_NoProgram, [("row", .int far)]⟩, ⟨T.C_Wrong, [("exchange", A), ("blamed", L), ("wanted", W)]⟩, ⟨T.C_Taken, [("name", .str x)]⟩]) (vs_cons m (ex_NoProgram_0_row T vs_nil (vs_cons mp (kf rfl) vs_nil)) (vs_cons m (ex_Wrong_0_wanted_exchange_blamed T vs_nil (vs_cons mp (kw t11 rfl) (vs_cons mp (ka t11 rfl) (vs_cons mp (kl t11 rfl) vs_nil)))) (vs_cons m (ex_Taken_0_name T vs_nil (vs_cons mp (kx rfl) vs_nil)) vs_nil))) (by simp))) (by simp))) g11.fh fun v12 F12 H12 g12 r2 => ?_
    refine v_asgE (fun v => [some (.ref a), some (.ref p), some (.str x), some (.int far), some (.ref ta), some vl, some v2, some v3, some v6, some v, some v9]) (fun _ => rfl) (EvN.f m (vn_cat m (xs := [⟨T.C_NoMachine, []⟩, ⟨T.C_Unclean, []⟩, ⟨T.C_NoLot, []⟩, ⟨T.C_TooMany, []⟩, ⟨T.C_Going, []⟩, ⟨T.C_NoDeed, []⟩, ⟨T.C_Full, []⟩, ⟨T.C_NoText, []⟩, ⟨T.C_NoLine, []⟩, ⟨T.C_NoTalk, [("why", .str x)]⟩, ⟨T.C_Unchained, [("one", A), ("other", AR)]⟩, ⟨T.C_NoPlain, [("state", .int far)]⟩, ⟨T.C_NoPart, [("hand", .str x)]⟩, ⟨T.C_NoProgram, [("row", .int far)]⟩, ⟨T.C_Wrong, [("exchange", A), ("blamed", L), ("wanted", W)]⟩, ⟨T.C_Taken, [("name", .str x)]⟩]) (ys := [⟨T.C_NoHand, [("hand", .str x)]⟩, ⟨T.C_NoName, [("name", .str x)]⟩, ⟨T.C_NoState, [("state", .int far)]⟩]) (vr_var rfl r2) (EvN.f m (vn_lst (xs := [⟨T.C_NoHand, [("hand", .str x)]⟩, ⟨T.C_NoName, [("name", .str x)]⟩, ⟨T.C_NoState, [("state", .int far)]⟩]) (vs_cons m (ex_NoHand_0_hand T vs_nil (vs_cons mp (kx rfl) vs_nil)) (vs_cons m (ex_NoName_0_name T vs_nil (vs_cons mp (kx rfl) vs_nil)) (vs_cons m (ex_NoState_0_state T vs_nil (vs_cons mp (kf rfl) vs_nil)) vs_nil))) (by simp))) (by simp))) g12.fh fun v13 F13 H13 g13 r3 => ?_
    have dr13 := mp _ _ _ _ (sT g10.ff (sT g11.ff (sT g12.ff g13.ff))) dr
    have k13 := sT g4.ff (sT (sT g5.ff g6.ff) (sT (sT g7.ff g8.ff) (sT (sT g9.ff g10.ff) (sT g11.ff (sT g12.ff g13.ff)))))
    have b13 := m.lr _ _ _ _ k13 b3
    have dn13 := mp _ _ _ _ k13 dn
    have t13 := sT t11 (sT g12.ff g13.ff)
    refine s_when (b := false) ((et_or (et_not (et_B (ev_row (vr_var rfl r3) (cls_of rfl) rfl))) fun _ => et_or (et_test (vp_ne (vp_fields (vr_var rfl r3) (cls_of rfl) ⟨⟨_, rfl, .head _⟩, ⟨_, rfl, .head _⟩, ⟨_, rfl, .tail _ (.head _)⟩, ⟨_, rfl, .head _⟩, ⟨_, rfl, .head _⟩, ⟨_, rfl, .head _⟩, ⟨_, rfl, .head _⟩, ⟨_, rfl, .tail _ (.head _)⟩, ⟨_, rfl, .tail _ (.tail _ (.head _))⟩, ⟨_, rfl, .head _⟩, ⟨_, rfl, .head _⟩, ⟨_, rfl, .head _⟩, ⟨_, rfl, .head _⟩⟩) (vr_var rfl dr13) plR plR dpR)) fun _ => et_test (vp_ne (vp_fields (vr_var rfl b13) (cls_of rfl) ⟨⟨_, rfl, .head _⟩, ⟨_, rfl, .head _⟩, ⟨_, rfl, .tail _ (.head _)⟩, ⟨_, rfl, .head _⟩, ⟨_, rfl, .head _⟩, ⟨_, rfl, .head _⟩, ⟨_, rfl, .head _⟩, ⟨_, rfl, .tail _ (.head _)⟩, ⟨_, rfl, .tail _ (.tail _ (.head _))⟩, ⟨_, rfl, .head _⟩, ⟨_, rfl, .head _⟩, ⟨_, rfl, .head _⟩, ⟨_, rfl, .head _⟩⟩) (vr_var rfl dn13) rfl rfl (by decide))).is ?_) g13.fh (fun z => (nomatch z)) fun _ F14 H14 g14 => ?_
    · rw [ne_self plR, ne_self rfl]
      rfl
    refine s_when (b := false) (et_or (a := false) (b := false) (et_test (in_sorts19 (ex_B T.x_TalkError vs_nil n0) rfl)) fun _ => et_test (ne_kinds (ex_B T.x_TalkError (vs_cons mp (kx rfl) vs_nil) n1) rfl (eo_lst (ea_cons ev_bl (ea_cons ev_bl (ea_cons ev_bl (ea_cons ev_bl ea_nil)))) (by simp)).f)) g14.fh (fun z => (nomatch z)) fun _ F15 H15 g15 => ?_
    have t15 := sT t13 (sT g14.ff g15.ff)
    refine v_ret (R := fun F v d => Dq F v d) (vp_eq (vp_lst (EvN.f mp (vn_lst (xs := [.tuple [], .tuple [], .none]) (vs_cons mp (ex_fld (ex_Wrong_1 T (vs_cons mp (ka t15 rfl) vs_nil) vs_nil) (.tail _ (.head _)) (T.f_Wrong _ (by simp))) (vs_cons mp (ex_fld (ex_Wrong_1 T (vs_cons mp (ka t15 rfl) vs_nil) vs_nil) (.tail _ (.tail _ (.head _))) (T.f_Wrong _ (by simp))) (vs_cons mp (ex_fld (ex_Unchained_1 T (vs_cons mp (ka t15 rfl) vs_nil) vs_nil) (.tail _ (.head _)) (T.f_Unchained _ (by simp))) vs_nil))) (by simp)))) (vp_of (eo_lst (ea_cons (ev_tup ea_nil (by simp)) (ea_cons (ev_tup ea_nil (by simp)) (ea_cons ev_non ea_nil))) (by simp)).f rfl) rfl rfl (by decide)) g15.fh fun v16 F16 H16 g16 d16 => ?_
    cases d16.blE
    rw [show PyData.eqv (.list [.tuple [], .tuple [], .none]) (.list [.tuple [], .tuple [], .none]) = true from SeqAt.eqv_refl_plain _ rfl]
    exact q _
end
/-! ### what the top has written -/
theorem all_mk {l : PySem.W.OpenLaw} {w : World} {K : PySem.W.Frag} {h : Heap} {mg : Str → Option Value} {fa : Addr} (X : K.In h) (G : h.Ns mainGlobals mg) (hfa : mg "law" = some (.ref fa))
    {D_TalkError : Addr}
    (n_TalkError : PySem.W.nsIn K mainGlobals "TalkError" = some (some (.ref D_TalkError)))
    (x_TalkError : xcB K D_TalkError bmV "ValueError.__new__" "ValueError" = true)
    (i_TalkError : PySem.W.findIn K (.ref D_TalkError) "__init__" = some (some (.builtin "ValueError.__init__")))
    (rd_TalkError : PySem.W.readsIn K D_TalkError (.type "type") = true)
    (gc_TalkError : PySem.W.specialIn K (.ref D_TalkError) "__getattribute__" = some (some (.builtin "type.__getattribute__")))
    (v_TalkError : PySem.W.findCls K (.ref D_TalkError) (.type "type") "__init__" = some (.val (.builtin "ValueError.__init__")))
    {D_NoTalk : Addr}
    (n_NoTalk : PySem.W.nsIn K mainGlobals "NoTalk" = some (some (.ref D_NoTalk)))
    (x_NoTalk : xcB K D_NoTalk bmV "ValueError.__new__" "ValueError" = true)
    {f_NoTalk T_NoTalk : Addr} {od_NoTalk an_NoTalk td_NoTalk : Option Addr} {sl_NoTalk ts_NoTalk : Array (Option Value)} {oc_NoTalk kV_NoTalk dc_NoTalk pm_NoTalk cd_NoTalk ct_NoTalk tc_NoTalk : Value} {tn_NoTalk : Nat}
    {k_NoTalk_0 : Tok}
    (i_NoTalk : PySem.W.findIn K (.ref D_NoTalk) "__init__" = some (some (.ref f_NoTalk)))
    (l_NoTalk : K.lookup f_NoTalk = some ⟨oc_NoTalk, od_NoTalk, .func (PySem.W.fnOf "__init__" "NoTalk.__init__" (defArgs s_NoTalk___init__) (defBody s_NoTalk___init__) (defScope s_NoTalk___init__) (.ref T_NoTalk) kV_NoTalk dc_NoTalk pm_NoTalk an_NoTalk cd_NoTalk ct_NoTalk), sl_NoTalk⟩)
    (c_NoTalk : PySem.W.codeIn K cd_NoTalk "NoTalk.__init__" = true)
    (k_NoTalk : PySem.W.keepIn K (.ref f_NoTalk) = true)
    (t_NoTalk : PySem.W.typeIn K (.ref f_NoTalk) = some (.type "function"))
    (d_NoTalk : K.lookup T_NoTalk = some ⟨tc_NoTalk, td_NoTalk, .seq #[.str "" k_NoTalk_0] tn_NoTalk, ts_NoTalk⟩)
    (f_NoTalk_why : PySem.W.findIn K (.ref D_NoTalk) "why" = some none)
    {D_Unchained : Addr}
    (n_Unchained : PySem.W.nsIn K mainGlobals "Unchained" = some (some (.ref D_Unchained)))
    (x_Unchained : xcB K D_Unchained bmV "ValueError.__new__" "ValueError" = true)
    {f_Unchained T_Unchained : Addr} {od_Unchained an_Unchained td_Unchained : Option Addr} {sl_Unchained ts_Unchained : Array (Option Value)} {oc_Unchained kV_Unchained dc_Unchained pm_Unchained cd_Unchained ct_Unchained tc_Unchained : Value} {tn_Unchained : Nat}
    (i_Unchained : PySem.W.findIn K (.ref D_Unchained) "__init__" = some (some (.ref f_Unchained)))
    (l_Unchained : K.lookup f_Unchained = some ⟨oc_Unchained, od_Unchained, .func (PySem.W.fnOf "__init__" "Unchained.__init__" (defArgs s_Unchained___init__) (defBody s_Unchained___init__) (defScope s_Unchained___init__) (.ref T_Unchained) kV_Unchained dc_Unchained pm_Unchained an_Unchained cd_Unchained ct_Unchained), sl_Unchained⟩)
    (c_Unchained : PySem.W.codeIn K cd_Unchained "Unchained.__init__" = true)
    (k_Unchained : PySem.W.keepIn K (.ref f_Unchained) = true)
    (t_Unchained : PySem.W.typeIn K (.ref f_Unchained) = some (.type "function"))
    (d_Unchained : K.lookup T_Unchained = some ⟨tc_Unchained, td_Unchained, .seq #[.none, .none] tn_Unchained, ts_Unchained⟩)
    (f_Unchained_one : PySem.W.findIn K (.ref D_Unchained) "one" = some none)
    (f_Unchained_other : PySem.W.findIn K (.ref D_Unchained) "other" = some none)
    {D_NoMachine : Addr}
    (n_NoMachine : PySem.W.nsIn K mainGlobals "NoMachine" = some (some (.ref D_NoMachine)))
    (x_NoMachine : xcB K D_NoMachine bmV "ValueError.__new__" "ValueError" = true)
    (i_NoMachine : PySem.W.findIn K (.ref D_NoMachine) "__init__" = some (some (.builtin "ValueError.__init__")))
    {D_Unclean : Addr}
    (n_Unclean : PySem.W.nsIn K mainGlobals "Unclean" = some (some (.ref D_Unclean)))
    (x_Unclean : xcB K D_Unclean bmV "ValueError.__new__" "ValueError" = true)
    (i_Unclean : PySem.W.findIn K (.ref D_Unclean) "__init__" = some (some (.builtin "ValueError.__init__")))
    {D_NoPlain : Addr}
    (n_NoPlain : PySem.W.nsIn K mainGlobals "NoPlain" = some (some (.ref D_NoPlain)))
    (x_NoPlain : xcB K D_NoPlain bmV "ValueError.__new__" "ValueError" = true)
    {f_NoPlain T_NoPlain : Addr} {od_NoPlain an_NoPlain td_NoPlain : Option Addr} {sl_NoPlain ts_NoPlain : Array (Option Value)} {oc_NoPlain kV_NoPlain dc_NoPlain pm_NoPlain cd_NoPlain ct_NoPlain tc_NoPlain : Value} {tn_NoPlain : Nat}
    (i_NoPlain : PySem.W.findIn K (.ref D_NoPlain) "__init__" = some (some (.ref f_NoPlain)))
    (l_NoPlain : K.lookup f_NoPlain = some ⟨oc_NoPlain, od_NoPlain, .func (PySem.W.fnOf "__init__" "NoPlain.__init__" (defArgs s_NoPlain___init__) (defBody s_NoPlain___init__) (defScope s_NoPlain___init__) (.ref T_NoPlain) kV_NoPlain dc_NoPlain pm_NoPlain an_NoPlain cd_NoPlain ct_NoPlain), sl_NoPlain⟩)
    (c_NoPlain : PySem.W.codeIn K cd_NoPlain "NoPlain.__init__" = true)
    (k_NoPlain : PySem.W.keepIn K (.ref f_NoPlain) = true)
    (t_NoPlain : PySem.W.typeIn K (.ref f_NoPlain) = some (.type "function"))
    (d_NoPlain : K.lookup T_NoPlain = some ⟨tc_NoPlain, td_NoPlain, .seq #[.none] tn_NoPlain, ts_NoPlain⟩)
    (f_NoPlain_state : PySem.W.findIn K (.ref D_NoPlain) "state" = some none)
    {D_NoPart : Addr}
    (n_NoPart : PySem.W.nsIn K mainGlobals "NoPart" = some (some (.ref D_NoPart)))
    (x_NoPart : xcB K D_NoPart bmV "ValueError.__new__" "ValueError" = true)
    {f_NoPart T_NoPart : Addr} {od_NoPart an_NoPart td_NoPart : Option Addr} {sl_NoPart ts_NoPart : Array (Option Value)} {oc_NoPart kV_NoPart dc_NoPart pm_NoPart cd_NoPart ct_NoPart tc_NoPart : Value} {tn_NoPart : Nat}
    {k_NoPart_0 : Tok}
    (i_NoPart : PySem.W.findIn K (.ref D_NoPart) "__init__" = some (some (.ref f_NoPart)))
    (l_NoPart : K.lookup f_NoPart = some ⟨oc_NoPart, od_NoPart, .func (PySem.W.fnOf "__init__" "NoPart.__init__" (defArgs s_NoPart___init__) (defBody s_NoPart___init__) (defScope s_NoPart___init__) (.ref T_NoPart) kV_NoPart dc_NoPart pm_NoPart an_NoPart cd_NoPart ct_NoPart), sl_NoPart⟩)
    (c_NoPart : PySem.W.codeIn K cd_NoPart "NoPart.__init__" = true)
    (k_NoPart : PySem.W.keepIn K (.ref f_NoPart) = true)
    (t_NoPart : PySem.W.typeIn K (.ref f_NoPart) = some (.type "function"))
    (d_NoPart : K.lookup T_NoPart = some ⟨tc_NoPart, td_NoPart, .seq #[.str "" k_NoPart_0] tn_NoPart, ts_NoPart⟩)
    (f_NoPart_hand : PySem.W.findIn K (.ref D_NoPart) "hand" = some none)
    {D_NoLot : Addr}
    (n_NoLot : PySem.W.nsIn K mainGlobals "NoLot" = some (some (.ref D_NoLot)))
    (x_NoLot : xcB K D_NoLot bmV "ValueError.__new__" "ValueError" = true)
    (i_NoLot : PySem.W.findIn K (.ref D_NoLot) "__init__" = some (some (.builtin "ValueError.__init__")))
    {D_TooMany : Addr}
    (n_TooMany : PySem.W.nsIn K mainGlobals "TooMany" = some (some (.ref D_TooMany)))
    (x_TooMany : xcB K D_TooMany bmV "ValueError.__new__" "ValueError" = true)
    (i_TooMany : PySem.W.findIn K (.ref D_TooMany) "__init__" = some (some (.builtin "ValueError.__init__")))
    {D_NoProgram : Addr}
    (n_NoProgram : PySem.W.nsIn K mainGlobals "NoProgram" = some (some (.ref D_NoProgram)))
    (x_NoProgram : xcB K D_NoProgram bmV "ValueError.__new__" "ValueError" = true)
    {f_NoProgram T_NoProgram : Addr} {od_NoProgram an_NoProgram td_NoProgram : Option Addr} {sl_NoProgram ts_NoProgram : Array (Option Value)} {oc_NoProgram kV_NoProgram dc_NoProgram pm_NoProgram cd_NoProgram ct_NoProgram tc_NoProgram : Value} {tn_NoProgram : Nat}
    (i_NoProgram : PySem.W.findIn K (.ref D_NoProgram) "__init__" = some (some (.ref f_NoProgram)))
    (l_NoProgram : K.lookup f_NoProgram = some ⟨oc_NoProgram, od_NoProgram, .func (PySem.W.fnOf "__init__" "NoProgram.__init__" (defArgs s_NoProgram___init__) (defBody s_NoProgram___init__) (defScope s_NoProgram___init__) (.ref T_NoProgram) kV_NoProgram dc_NoProgram pm_NoProgram an_NoProgram cd_NoProgram ct_NoProgram), sl_NoProgram⟩)
    (c_NoProgram : PySem.W.codeIn K cd_NoProgram "NoProgram.__init__" = true)
    (k_NoProgram : PySem.W.keepIn K (.ref f_NoProgram) = true)
    (t_NoProgram : PySem.W.typeIn K (.ref f_NoProgram) = some (.type "function"))
    (d_NoProgram : K.lookup T_NoProgram = some ⟨tc_NoProgram, td_NoProgram, .seq #[.none] tn_NoProgram, ts_NoProgram⟩)
    (f_NoProgram_row : PySem.W.findIn K (.ref D_NoProgram) "row" = some none)
    {D_Wrong : Addr}
    (n_Wrong : PySem.W.nsIn K mainGlobals "Wrong" = some (some (.ref D_Wrong)))
    (x_Wrong : xcB K D_Wrong bmV "ValueError.__new__" "ValueError" = true)
    {f_Wrong T_Wrong : Addr} {od_Wrong an_Wrong td_Wrong : Option Addr} {sl_Wrong ts_Wrong : Array (Option Value)} {oc_Wrong kV_Wrong dc_Wrong pm_Wrong cd_Wrong ct_Wrong tc_Wrong : Value} {tn_Wrong : Nat}
    {e_Wrong_1 : Addr} {ed_Wrong_1 : Option Addr} {es_Wrong_1 : Array (Option Value)} {en_Wrong_1 : Nat}
    {e_Wrong_2 : Addr} {ed_Wrong_2 : Option Addr} {es_Wrong_2 : Array (Option Value)} {en_Wrong_2 : Nat}
    (i_Wrong : PySem.W.findIn K (.ref D_Wrong) "__init__" = some (some (.ref f_Wrong)))
    (l_Wrong : K.lookup f_Wrong = some ⟨oc_Wrong, od_Wrong, .func (PySem.W.fnOf "__init__" "Wrong.__init__" (defArgs s_Wrong___init__) (defBody s_Wrong___init__) (defScope s_Wrong___init__) (.ref T_Wrong) kV_Wrong dc_Wrong pm_Wrong an_Wrong cd_Wrong ct_Wrong), sl_Wrong⟩)
    (c_Wrong : PySem.W.codeIn K cd_Wrong "Wrong.__init__" = true)
    (k_Wrong : PySem.W.keepIn K (.ref f_Wrong) = true)
    (t_Wrong : PySem.W.typeIn K (.ref f_Wrong) = some (.type "function"))
    (d_Wrong : K.lookup T_Wrong = some ⟨tc_Wrong, td_Wrong, .seq #[.none, .ref e_Wrong_1, .ref e_Wrong_2] tn_Wrong, ts_Wrong⟩)
    (u_Wrong_1 : K.lookup e_Wrong_1 = some ⟨.type "tuple", ed_Wrong_1, .seq #[] en_Wrong_1, es_Wrong_1⟩)
    (u_Wrong_2 : K.lookup e_Wrong_2 = some ⟨.type "tuple", ed_Wrong_2, .seq #[] en_Wrong_2, es_Wrong_2⟩)
    (f_Wrong_exchange : PySem.W.findIn K (.ref D_Wrong) "exchange" = some none)
    (f_Wrong_blamed : PySem.W.findIn K (.ref D_Wrong) "blamed" = some none)
    (f_Wrong_wanted : PySem.W.findIn K (.ref D_Wrong) "wanted" = some none)
    {D_Taken : Addr}
    (n_Taken : PySem.W.nsIn K mainGlobals "Taken" = some (some (.ref D_Taken)))
    (x_Taken : xcB K D_Taken bmV "ValueError.__new__" "ValueError" = true)
    {f_Taken T_Taken : Addr} {od_Taken an_Taken td_Taken : Option Addr} {sl_Taken ts_Taken : Array (Option Value)} {oc_Taken kV_Taken dc_Taken pm_Taken cd_Taken ct_Taken tc_Taken : Value} {tn_Taken : Nat}
    {k_Taken_0 : Tok}
    (i_Taken : PySem.W.findIn K (.ref D_Taken) "__init__" = some (some (.ref f_Taken)))
    (l_Taken : K.lookup f_Taken = some ⟨oc_Taken, od_Taken, .func (PySem.W.fnOf "__init__" "Taken.__init__" (defArgs s_Taken___init__) (defBody s_Taken___init__) (defScope s_Taken___init__) (.ref T_Taken) kV_Taken dc_Taken pm_Taken an_Taken cd_Taken ct_Taken), sl_Taken⟩)
    (c_Taken : PySem.W.codeIn K cd_Taken "Taken.__init__" = true)
    (k_Taken : PySem.W.keepIn K (.ref f_Taken) = true)
    (t_Taken : PySem.W.typeIn K (.ref f_Taken) = some (.type "function"))
    (d_Taken : K.lookup T_Taken = some ⟨tc_Taken, td_Taken, .seq #[.str "" k_Taken_0] tn_Taken, ts_Taken⟩)
    (f_Taken_name : PySem.W.findIn K (.ref D_Taken) "name" = some none)
    {D_Going : Addr}
    (n_Going : PySem.W.nsIn K mainGlobals "Going" = some (some (.ref D_Going)))
    (x_Going : xcB K D_Going bmV "ValueError.__new__" "ValueError" = true)
    (i_Going : PySem.W.findIn K (.ref D_Going) "__init__" = some (some (.builtin "ValueError.__init__")))
    {D_NoDeed : Addr}
    (n_NoDeed : PySem.W.nsIn K mainGlobals "NoDeed" = some (some (.ref D_NoDeed)))
    (x_NoDeed : xcB K D_NoDeed bmV "ValueError.__new__" "ValueError" = true)
    (i_NoDeed : PySem.W.findIn K (.ref D_NoDeed) "__init__" = some (some (.builtin "ValueError.__init__")))
    {D_Full : Addr}
    (n_Full : PySem.W.nsIn K mainGlobals "Full" = some (some (.ref D_Full)))
    (x_Full : xcB K D_Full bmV "ValueError.__new__" "ValueError" = true)
    (i_Full : PySem.W.findIn K (.ref D_Full) "__init__" = some (some (.builtin "ValueError.__init__")))
    {D_NoText : Addr}
    (n_NoText : PySem.W.nsIn K mainGlobals "NoText" = some (some (.ref D_NoText)))
    (x_NoText : xcB K D_NoText bmV "ValueError.__new__" "ValueError" = true)
    (i_NoText : PySem.W.findIn K (.ref D_NoText) "__init__" = some (some (.builtin "ValueError.__init__")))
    {D_NoLine : Addr}
    (n_NoLine : PySem.W.nsIn K mainGlobals "NoLine" = some (some (.ref D_NoLine)))
    (x_NoLine : xcB K D_NoLine bmV "ValueError.__new__" "ValueError" = true)
    (i_NoLine : PySem.W.findIn K (.ref D_NoLine) "__init__" = some (some (.builtin "ValueError.__init__")))
    {D_NoHand : Addr}
    (n_NoHand : PySem.W.nsIn K mainGlobals "NoHand" = some (some (.ref D_NoHand)))
    (x_NoHand : xcB K D_NoHand bmK "LookupError.__new__" "KeyError" = true)
    {f_NoHand T_NoHand : Addr} {od_NoHand an_NoHand td_NoHand : Option Addr} {sl_NoHand ts_NoHand : Array (Option Value)} {oc_NoHand kV_NoHand dc_NoHand pm_NoHand cd_NoHand ct_NoHand tc_NoHand : Value} {tn_NoHand : Nat}
    {k_NoHand_0 : Tok}
    (i_NoHand : PySem.W.findIn K (.ref D_NoHand) "__init__" = some (some (.ref f_NoHand)))
    (l_NoHand : K.lookup f_NoHand = some ⟨oc_NoHand, od_NoHand, .func (PySem.W.fnOf "__init__" "NoHand.__init__" (defArgs s_NoHand___init__) (defBody s_NoHand___init__) (defScope s_NoHand___init__) (.ref T_NoHand) kV_NoHand dc_NoHand pm_NoHand an_NoHand cd_NoHand ct_NoHand), sl_NoHand⟩)
    (c_NoHand : PySem.W.codeIn K cd_NoHand "NoHand.__init__" = true)
    (k_NoHand : PySem.W.keepIn K (.ref f_NoHand) = true)
    (t_NoHand : PySem.W.typeIn K (.ref f_NoHand) = some (.type "function"))
    (d_NoHand : K.lookup T_NoHand = some ⟨tc_NoHand, td_NoHand, .seq #[.str "" k_NoHand_0] tn_NoHand, ts_NoHand⟩)
    (f_NoHand_hand : PySem.W.findIn K (.ref D_NoHand) "hand" = some none)
    {D_NoName : Addr}
    (n_NoName : PySem.W.nsIn K mainGlobals "NoName" = some (some (.ref D_NoName)))
    (x_NoName : xcB K D_NoName bmK "LookupError.__new__" "KeyError" = true)
    {f_NoName T_NoName : Addr} {od_NoName an_NoName td_NoName : Option Addr} {sl_NoName ts_NoName : Array (Option Value)} {oc_NoName kV_NoName dc_NoName pm_NoName cd_NoName ct_NoName tc_NoName : Value} {tn_NoName : Nat}
    {k_NoName_0 : Tok}
    (i_NoName : PySem.W.findIn K (.ref D_NoName) "__init__" = some (some (.ref f_NoName)))
    (l_NoName : K.lookup f_NoName = some ⟨oc_NoName, od_NoName, .func (PySem.W.fnOf "__init__" "NoName.__init__" (defArgs s_NoName___init__) (defBody s_NoName___init__) (defScope s_NoName___init__) (.ref T_NoName) kV_NoName dc_NoName pm_NoName an_NoName cd_NoName ct_NoName), sl_NoName⟩)
    (c_NoName : PySem.W.codeIn K cd_NoName "NoName.__init__" = true)
    (k_NoName : PySem.W.keepIn K (.ref f_NoName) = true)
    (t_NoName : PySem.W.typeIn K (.ref f_NoName) = some (.type "function"))
    (d_NoName : K.lookup T_NoName = some ⟨tc_NoName, td_NoName, .seq #[.str "" k_NoName_0] tn_NoName, ts_NoName⟩)
    (f_NoName_name : PySem.W.findIn K (.ref D_NoName) "name" = some none)
    {D_NoState : Addr}
    (n_NoState : PySem.W.nsIn K mainGlobals "NoState" = some (some (.ref D_NoState)))
    (x_NoState : xcB K D_NoState bmI "IndexError.__new__" "IndexError" = true)
    {f_NoState T_NoState : Addr} {od_NoState an_NoState td_NoState : Option Addr} {sl_NoState ts_NoState : Array (Option Value)} {oc_NoState kV_NoState dc_NoState pm_NoState cd_NoState ct_NoState tc_NoState : Value} {tn_NoState : Nat}
    (i_NoState : PySem.W.findIn K (.ref D_NoState) "__init__" = some (some (.ref f_NoState)))
    (l_NoState : K.lookup f_NoState = some ⟨oc_NoState, od_NoState, .func (PySem.W.fnOf "__init__" "NoState.__init__" (defArgs s_NoState___init__) (defBody s_NoState___init__) (defScope s_NoState___init__) (.ref T_NoState) kV_NoState dc_NoState pm_NoState an_NoState cd_NoState ct_NoState), sl_NoState⟩)
    (c_NoState : PySem.W.codeIn K cd_NoState "NoState.__init__" = true)
    (k_NoState : PySem.W.keepIn K (.ref f_NoState) = true)
    (t_NoState : PySem.W.typeIn K (.ref f_NoState) = some (.type "function"))
    (d_NoState : K.lookup T_NoState = some ⟨tc_NoState, td_NoState, .seq #[.none] tn_NoState, ts_NoState⟩)
    (f_NoState_state : PySem.W.findIn K (.ref D_NoState) "state" = some none)
    (v_IndexError : PySem.W.findCls K (.type "IndexError") (.type "type") "__init__" = some (.val (.builtin "IndexError.__init__")))
    (v_KeyError : PySem.W.findCls K (.type "KeyError") (.type "type") "__init__" = some (.val (.builtin "KeyError.__init__")))
    (kt : ktB K [D_NoMachine, D_Unclean, D_NoLot, D_TooMany, D_Going, D_NoDeed, D_Full, D_NoText, D_NoLine, D_NoTalk, D_Unchained, D_NoPlain, D_NoPart, D_NoProgram, D_Wrong, D_Taken, D_NoHand, D_NoName, D_NoState, D_TalkError] [.ref D_NoMachine, .ref D_Unclean, .ref D_NoLot, .ref D_TooMany, .ref D_Going, .ref D_NoDeed, .ref D_Full, .ref D_NoText, .ref D_NoLine, .ref D_NoTalk, .ref D_Unchained, .ref D_NoPlain, .ref D_NoPart, .ref D_NoProgram, .ref D_Wrong, .ref D_Taken, .ref D_NoHand, .ref D_NoName, .ref D_NoState, .ref D_TalkError, .type "ValueError", .type "KeyError", .type "IndexError"] tabX = true)
    {f0 : Addr} {od0 an0 : Option Addr} {sl0 : Array (Option Value)} {oc0 kV0 dc0 pm0 cd0 ct0 : Value}
    (a0 : PySem.W.nsIn K mainGlobals "_law_mixed" = some (some (.ref f0)))
    (l0 : K.lookup f0 = some ⟨oc0, od0, .func (PySem.W.fnOf "_law_mixed" "_law_mixed" (defArgs s_law_mixed) (defBody s_law_mixed) (defScope s_law_mixed) .none kV0 dc0 pm0 an0 cd0 ct0), sl0⟩)
    (c0 : PySem.W.codeIn K cd0 "_law_mixed" = true)
    (k0 : PySem.W.keepIn K (.ref f0) = true)
    {f1 : Addr} {od1 an1 : Option Addr} {sl1 : Array (Option Value)} {oc1 kV1 dc1 pm1 cd1 ct1 : Value}
    (a1 : PySem.W.nsIn K mainGlobals "_law_purse" = some (some (.ref f1)))
    (l1 : K.lookup f1 = some ⟨oc1, od1, .func (PySem.W.fnOf "_law_purse" "_law_purse" (defArgs s_law_purse) (defBody s_law_purse) (defScope s_law_purse) .none kV1 dc1 pm1 an1 cd1 ct1), sl1⟩)
    (c1 : PySem.W.codeIn K cd1 "_law_purse" = true)
    (k1 : PySem.W.keepIn K (.ref f1) = true)
    {f2 : Addr} {od2 an2 : Option Addr} {sl2 : Array (Option Value)} {oc2 kV2 dc2 pm2 cd2 ct2 : Value}
    (a2 : PySem.W.nsIn K mainGlobals "_law_draw" = some (some (.ref f2)))
    (l2 : K.lookup f2 = some ⟨oc2, od2, .func (PySem.W.fnOf "_law_draw" "_law_draw" (defArgs s_law_draw) (defBody s_law_draw) (defScope s_law_draw) .none kV2 dc2 pm2 an2 cd2 ct2), sl2⟩)
    (c2 : PySem.W.codeIn K cd2 "_law_draw" = true)
    (k2 : PySem.W.keepIn K (.ref f2) = true)
    {f3 : Addr} {od3 an3 : Option Addr} {sl3 : Array (Option Value)} {oc3 kV3 dc3 pm3 cd3 ct3 : Value}
    (a3 : PySem.W.nsIn K mainGlobals "_law_sorts" = some (some (.ref f3)))
    (l3 : K.lookup f3 = some ⟨oc3, od3, .func (PySem.W.fnOf "_law_sorts" "_law_sorts" (defArgs s_law_sorts) (defBody s_law_sorts) (defScope s_law_sorts) .none kV3 dc3 pm3 an3 cd3 ct3), sl3⟩)
    (c3 : PySem.W.codeIn K cd3 "_law_sorts" = true)
    (k3 : PySem.W.keepIn K (.ref f3) = true)
    {f4 : Addr} {od4 an4 : Option Addr} {sl4 : Array (Option Value)} {oc4 kV4 dc4 pm4 cd4 ct4 : Value}
    (a4 : PySem.W.nsIn K mainGlobals "_law_kinds" = some (some (.ref f4)))
    (l4 : K.lookup f4 = some ⟨oc4, od4, .func (PySem.W.fnOf "_law_kinds" "_law_kinds" (defArgs s_law_kinds) (defBody s_law_kinds) (defScope s_law_kinds) .none kV4 dc4 pm4 an4 cd4 ct4), sl4⟩)
    (c4 : PySem.W.codeIn K cd4 "_law_kinds" = true)
    (k4 : PySem.W.keepIn K (.ref f4) = true)
    {f5 : Addr} {od5 an5 : Option Addr} {sl5 : Array (Option Value)} {oc5 kV5 dc5 pm5 cd5 ct5 : Value}
    (a5 : PySem.W.nsIn K mainGlobals "_law_row_right" = some (some (.ref f5)))
    (l5 : K.lookup f5 = some ⟨oc5, od5, .func (PySem.W.fnOf "_law_row_right" "_law_row_right" (defArgs s_law_row_right) (defBody s_law_row_right) (defScope s_law_row_right) .none kV5 dc5 pm5 an5 cd5 ct5), sl5⟩)
    (c5 : PySem.W.codeIn K cd5 "_law_row_right" = true)
    (k5 : PySem.W.keepIn K (.ref f5) = true)
    {f6 : Addr} {od6 an6 : Option Addr} {sl6 : Array (Option Value)} {oc6 kV6 dc6 pm6 cd6 ct6 : Value}
    (a6 : PySem.W.nsIn K mainGlobals "_law_fields" = some (some (.ref f6)))
    (l6 : K.lookup f6 = some ⟨oc6, od6, .func (PySem.W.fnOf "_law_fields" "_law_fields" (defArgs s_law_fields) (defBody s_law_fields) (defScope s_law_fields) .none kV6 dc6 pm6 an6 cd6 ct6), sl6⟩)
    (c6 : PySem.W.codeIn K cd6 "_law_fields" = true)
    (k6 : PySem.W.keepIn K (.ref f6) = true)
    {f7 : Addr} {od7 an7 : Option Addr} {sl7 : Array (Option Value)} {oc7 kV7 dc7 pm7 cd7 ct7 : Value}
    (a7 : PySem.W.nsIn K mainGlobals "law" = some (some (.ref f7)))
    (l7 : K.lookup f7 = some ⟨oc7, od7, .func (PySem.W.fnOf "law" "law" (defArgs s_law) (defBody s_law) (defScope s_law) .none kV7 dc7 pm7 an7 cd7 ct7), sl7⟩)
    (c7 : PySem.W.codeIn K cd7 "law" = true)
    (k7 : PySem.W.keepIn K (.ref f7) = true)
    (z0 : PySem.W.nsIn K mainGlobals "IndexError" = some none)
    (z1 : PySem.W.nsIn K mainGlobals "KeyError" = some none)
    (z2 : PySem.W.nsIn K mainGlobals "ValueError" = some none)
    (z3 : PySem.W.nsIn K mainGlobals "enumerate" = some none)
    (z4 : PySem.W.nsIn K mainGlobals "isinstance" = some none)
    (z5 : PySem.W.nsIn K mainGlobals "max" = some none)
    (z6 : PySem.W.nsIn K mainGlobals "range" = some none)
    (z7 : PySem.W.nsIn K mainGlobals "sum" = some none)
    : ∃ fd : FuncData, (∀ (s : Shared) (v : Value), BindsTo s fd ⟨[v], []⟩ [("_law_script", v)]) ∧ ∀ base : Heap, K.In base → base.Ns mainGlobals mg → FnOk l.prog w K mg base CX0 5 fa fd ["_law_script"] (spLaw K) := by
  have e := hfa.symm.trans (PySem.W.mg_of X G a7)
  cases e
  have F_NoTalk : FunD K "__init__" "NoTalk.__init__" (defArgs s_NoTalk___init__) (defBody s_NoTalk___init__) (defScope s_NoTalk___init__) [V.str ""] [] f_NoTalk _ := ⟨⟨_, _, _, _, _, _, _, _, _, _, rfl, l_NoTalk, c_NoTalk, .inr ⟨by simp, T_NoTalk, _, [.str "" k_NoTalk_0], _, rfl, d_NoTalk, rfl, (.cons ⟨_, rfl⟩ .nil)⟩, .inl rfl⟩, k_NoTalk⟩
  have m_NoTalk : ∀ n ∈ [("why" : Str)], PySem.W.findIn K (.ref D_NoTalk) n = some none := by
    intro n hn
    simp only [List.mem_cons, List.not_mem_nil, or_false] at hn
    rcases hn with hn
    · rw [hn]; exact f_NoTalk_why
  have F_Unchained : FunD K "__init__" "Unchained.__init__" (defArgs s_Unchained___init__) (defBody s_Unchained___init__) (defScope s_Unchained___init__) [V.non, V.non] [] f_Unchained _ := ⟨⟨_, _, _, _, _, _, _, _, _, _, rfl, l_Unchained, c_Unchained, .inr ⟨by simp, T_Unchained, _, [.none, .none], _, rfl, d_Unchained, rfl, (.cons rfl (.cons rfl .nil))⟩, .inl rfl⟩, k_Unchained⟩
  have m_Unchained : ∀ n ∈ [("one" : Str), ("other" : Str)], PySem.W.findIn K (.ref D_Unchained) n = some none := by
    intro n hn
    simp only [List.mem_cons, List.not_mem_nil, or_false] at hn
    rcases hn with hn | hn
    · rw [hn]; exact f_Unchained_one
    · rw [hn]; exact f_Unchained_other
  have F_NoPlain : FunD K "__init__" "NoPlain.__init__" (defArgs s_NoPlain___init__) (defBody s_NoPlain___init__) (defScope s_NoPlain___init__) [V.non] [] f_NoPlain _ := ⟨⟨_, _, _, _, _, _, _, _, _, _, rfl, l_NoPlain, c_NoPlain, .inr ⟨by simp, T_NoPlain, _, [.none], _, rfl, d_NoPlain, rfl, (.cons rfl .nil)⟩, .inl rfl⟩, k_NoPlain⟩
  have m_NoPlain : ∀ n ∈ [("state" : Str)], PySem.W.findIn K (.ref D_NoPlain) n = some none := by
    intro n hn
    simp only [List.mem_cons, List.not_mem_nil, or_false] at hn
    rcases hn with hn
    · rw [hn]; exact f_NoPlain_state
  have F_NoPart : FunD K "__init__" "NoPart.__init__" (defArgs s_NoPart___init__) (defBody s_NoPart___init__) (defScope s_NoPart___init__) [V.str ""] [] f_NoPart _ := ⟨⟨_, _, _, _, _, _, _, _, _, _, rfl, l_NoPart, c_NoPart, .inr ⟨by simp, T_NoPart, _, [.str "" k_NoPart_0], _, rfl, d_NoPart, rfl, (.cons ⟨_, rfl⟩ .nil)⟩, .inl rfl⟩, k_NoPart⟩
  have m_NoPart : ∀ n ∈ [("hand" : Str)], PySem.W.findIn K (.ref D_NoPart) n = some none := by
    intro n hn
    simp only [List.mem_cons, List.not_mem_nil, or_false] at hn
    rcases hn with hn
    · rw [hn]; exact f_NoPart_hand
  have F_NoProgram : FunD K "__init__" "NoProgram.__init__" (defArgs s_NoProgram___init__) (defBody s_NoProgram___init__) (defScope s_NoProgram___init__) [V.non] [] f_NoProgram _ := ⟨⟨_, _, _, _, _, _, _, _, _, _, rfl, l_NoProgram, c_NoProgram, .inr ⟨by simp, T_NoProgram, _, [.none], _, rfl, d_NoProgram, rfl, (.cons rfl .nil)⟩, .inl rfl⟩, k_NoProgram⟩
  have m_NoProgram : ∀ n ∈ [("row" : Str)], PySem.W.findIn K (.ref D_NoProgram) n = some none := by
    intro n hn
    simp only [List.mem_cons, List.not_mem_nil, or_false] at hn
    rcases hn with hn
    · rw [hn]; exact f_NoProgram_row
  have F_Wrong : FunD K "__init__" "Wrong.__init__" (defArgs s_Wrong___init__) (defBody s_Wrong___init__) (defScope s_Wrong___init__) [V.non, V.ref e_Wrong_1, V.ref e_Wrong_2] [] f_Wrong _ := ⟨⟨_, _, _, _, _, _, _, _, _, _, rfl, l_Wrong, c_Wrong, .inr ⟨by simp, T_Wrong, _, [.none, .ref e_Wrong_1, .ref e_Wrong_2], _, rfl, d_Wrong, rfl, (.cons rfl (.cons rfl (.cons rfl .nil)))⟩, .inl rfl⟩, k_Wrong⟩
  have m_Wrong : ∀ n ∈ [("exchange" : Str), ("blamed" : Str), ("wanted" : Str)], PySem.W.findIn K (.ref D_Wrong) n = some none := by
    intro n hn
    simp only [List.mem_cons, List.not_mem_nil, or_false] at hn
    rcases hn with hn | hn | hn
    · rw [hn]; exact f_Wrong_exchange
    · rw [hn]; exact f_Wrong_blamed
    · rw [hn]; exact f_Wrong_wanted
  have F_Taken : FunD K "__init__" "Taken.__init__" (defArgs s_Taken___init__) (defBody s_Taken___init__) (defScope s_Taken___init__) [V.str ""] [] f_Taken _ := ⟨⟨_, _, _, _, _, _, _, _, _, _, rfl, l_Taken, c_Taken, .inr ⟨by simp, T_Taken, _, [.str "" k_Taken_0], _, rfl, d_Taken, rfl, (.cons ⟨_, rfl⟩ .nil)⟩, .inl rfl⟩, k_Taken⟩
  have m_Taken : ∀ n ∈ [("name" : Str)], PySem.W.findIn K (.ref D_Taken) n = some none := by
    intro n hn
    simp only [List.mem_cons, List.not_mem_nil, or_false] at hn
    rcases hn with hn
    · rw [hn]; exact f_Taken_name
  have F_NoHand : FunD K "__init__" "NoHand.__init__" (defArgs s_NoHand___init__) (defBody s_NoHand___init__) (defScope s_NoHand___init__) [V.str ""] [] f_NoHand _ := ⟨⟨_, _, _, _, _, _, _, _, _, _, rfl, l_NoHand, c_NoHand, .inr ⟨by simp, T_NoHand, _, [.str "" k_NoHand_0], _, rfl, d_NoHand, rfl, (.cons ⟨_, rfl⟩ .nil)⟩, .inl rfl⟩, k_NoHand⟩
  have m_NoHand : ∀ n ∈ [("hand" : Str)], PySem.W.findIn K (.ref D_NoHand) n = some none := by
    intro n hn
    simp only [List.mem_cons, List.not_mem_nil, or_false] at hn
    rcases hn with hn
    · rw [hn]; exact f_NoHand_hand
  have F_NoName : FunD K "__init__" "NoName.__init__" (defArgs s_NoName___init__) (defBody s_NoName___init__) (defScope s_NoName___init__) [V.str ""] [] f_NoName _ := ⟨⟨_, _, _, _, _, _, _, _, _, _, rfl, l_NoName, c_NoName, .inr ⟨by simp, T_NoName, _, [.str "" k_NoName_0], _, rfl, d_NoName, rfl, (.cons ⟨_, rfl⟩ .nil)⟩, .inl rfl⟩, k_NoName⟩
  have m_NoName : ∀ n ∈ [("name" : Str)], PySem.W.findIn K (.ref D_NoName) n = some none := by
    intro n hn
    simp only [List.mem_cons, List.not_mem_nil, or_false] at hn
    rcases hn with hn
    · rw [hn]; exact f_NoName_name
  have F_NoState : FunD K "__init__" "NoState.__init__" (defArgs s_NoState___init__) (defBody s_NoState___init__) (defScope s_NoState___init__) [V.non] [] f_NoState _ := ⟨⟨_, _, _, _, _, _, _, _, _, _, rfl, l_NoState, c_NoState, .inr ⟨by simp, T_NoState, _, [.none], _, rfl, d_NoState, rfl, (.cons rfl .nil)⟩, .inl rfl⟩, k_NoState⟩
  have m_NoState : ∀ n ∈ [("state" : Str)], PySem.W.findIn K (.ref D_NoState) n = some none := by
    intro n hn
    simp only [List.mem_cons, List.not_mem_nil, or_false] at hn
    rcases hn with hn
    · rw [hn]; exact f_NoState_state
  have F0 := fun_mk (st := s_law_mixed) l0 c0 k0
  have b0 := F0.binds (ps := ["_law_cell", "_law_k"]) fun _ _ _ _ _ _ us hl => match us, hl with | [_, _], _ => rfl
  have F1 := fun_mk (st := s_law_purse) l1 c1 k1
  have b1 := F1.binds (ps := ["_law_script", "_law_at"]) fun _ _ _ _ _ _ us hl => match us, hl with | [_, _], _ => rfl
  have F2 := fun_mk (st := s_law_draw) l2 c2 k2
  have b2 := F2.binds (ps := ["_law_purse_here", "_law_out_of"]) fun _ _ _ _ _ _ us hl => match us, hl with | [_, _], _ => rfl
  have F3 := fun_mk (st := s_law_sorts) l3 c3 k3
  have b3 := F3.binds (ps := ["_law_it"]) fun _ _ _ _ _ _ us hl => match us, hl with | [_], _ => rfl
  have F4 := fun_mk (st := s_law_kinds) l4 c4 k4
  have b4 := F4.binds (ps := ["_law_it"]) fun _ _ _ _ _ _ us hl => match us, hl with | [_], _ => rfl
  have F5 := fun_mk (st := s_law_row_right) l5 c5 k5
  have b5 := F5.binds (ps := ["_law_some"]) fun _ _ _ _ _ _ us hl => match us, hl with | [_], _ => rfl
  have F6 := fun_mk (st := s_law_fields) l6 c6 k6
  have b6 := F6.binds (ps := ["_law_some"]) fun _ _ _ _ _ _ us hl => match us, hl with | [_], _ => rfl
  have F7 := fun_mk (st := s_law) l7 c7 k7
  have b7 := F7.binds (ps := ["_law_script"]) fun _ _ _ _ _ _ us hl => match us, hl with | [_], _ => rfl
  exact ⟨PySem.W.fnOf "law" "law" (defArgs s_law) (defBody s_law) (defScope s_law) .none kV7 dc7 pm7 an7 cd7 ct7, fun s v => .of_eq rfl, fun base _ _ => ok_law ⟨D_TalkError, PySem.W.mg_of X G n_TalkError, XC.of bsV x_TalkError, i_TalkError, rd_TalkError, gc_TalkError, v_TalkError, D_NoTalk, PySem.W.mg_of X G n_NoTalk, XC.of bsV x_NoTalk, f_NoTalk, _, F_NoTalk, i_NoTalk, t_NoTalk, m_NoTalk, D_Unchained, PySem.W.mg_of X G n_Unchained, XC.of bsV x_Unchained, f_Unchained, _, F_Unchained, i_Unchained, t_Unchained, m_Unchained, D_NoMachine, PySem.W.mg_of X G n_NoMachine, XC.of bsV x_NoMachine, i_NoMachine, D_Unclean, PySem.W.mg_of X G n_Unclean, XC.of bsV x_Unclean, i_Unclean, D_NoPlain, PySem.W.mg_of X G n_NoPlain, XC.of bsV x_NoPlain, f_NoPlain, _, F_NoPlain, i_NoPlain, t_NoPlain, m_NoPlain, D_NoPart, PySem.W.mg_of X G n_NoPart, XC.of bsV x_NoPart, f_NoPart, _, F_NoPart, i_NoPart, t_NoPart, m_NoPart, D_NoLot, PySem.W.mg_of X G n_NoLot, XC.of bsV x_NoLot, i_NoLot, D_TooMany, PySem.W.mg_of X G n_TooMany, XC.of bsV x_TooMany, i_TooMany, D_NoProgram, PySem.W.mg_of X G n_NoProgram, XC.of bsV x_NoProgram, f_NoProgram, _, F_NoProgram, i_NoProgram, t_NoProgram, m_NoProgram, D_Wrong, PySem.W.mg_of X G n_Wrong, XC.of bsV x_Wrong, f_Wrong, _, e_Wrong_1, fun H => .inr ⟨_, _, _, u_Wrong_1, rfl, rfl, by decide, .nil⟩, e_Wrong_2, fun H => .inr ⟨_, _, _, u_Wrong_2, rfl, rfl, by decide, .nil⟩, F_Wrong, i_Wrong, t_Wrong, m_Wrong, D_Taken, PySem.W.mg_of X G n_Taken, XC.of bsV x_Taken, f_Taken, _, F_Taken, i_Taken, t_Taken, m_Taken, D_Going, PySem.W.mg_of X G n_Going, XC.of bsV x_Going, i_Going, D_NoDeed, PySem.W.mg_of X G n_NoDeed, XC.of bsV x_NoDeed, i_NoDeed, D_Full, PySem.W.mg_of X G n_Full, XC.of bsV x_Full, i_Full, D_NoText, PySem.W.mg_of X G n_NoText, XC.of bsV x_NoText, i_NoText, D_NoLine, PySem.W.mg_of X G n_NoLine, XC.of bsV x_NoLine, i_NoLine, D_NoHand, PySem.W.mg_of X G n_NoHand, XC.of bsK x_NoHand, f_NoHand, _, F_NoHand, i_NoHand, t_NoHand, m_NoHand, D_NoName, PySem.W.mg_of X G n_NoName, XC.of bsK x_NoName, f_NoName, _, F_NoName, i_NoName, t_NoName, m_NoName, D_NoState, PySem.W.mg_of X G n_NoState, XC.of bsI x_NoState, f_NoState, _, F_NoState, i_NoState, t_NoState, m_NoState, v_IndexError, v_KeyError, fun i j c u => kt_of kt, _, _, F0, b0, PySem.W.mg_of X G a0, _, _, F1, b1, PySem.W.mg_of X G a1, _, _, F2, b2, PySem.W.mg_of X G a2, _, _, F3, b3, PySem.W.mg_of X G a3, _, _, F4, b4, PySem.W.mg_of X G a4, _, _, F5, b5, PySem.W.mg_of X G a5, _, _, F6, b6, PySem.W.mg_of X G a6, _, _, F7, b7, PySem.W.mg_of X G a7, PySem.W.mg_none_of X G z0, PySem.W.mg_none_of X G z1, PySem.W.mg_none_of X G z2, PySem.W.mg_none_of X G z3, PySem.W.mg_none_of X G z4, PySem.W.mg_none_of X G z5, PySem.W.mg_none_of X G z6, PySem.W.mg_none_of X G z7⟩⟩
end K79
open PySem PySem.W PyProof.Rows
set_option maxRecDepth 100000 in
set_option maxHeartbeats 0 in
theorem PySem.Challenge.cw_talkwatch_k79_refusals_made_holds : PySem.Challenge.rw_talkwatch_k79_refusals_made.Holds := by
  w_on; o_law; k_head; (case hw => w_witness2)
  k_fill
  refine L2.walk_of (l := PySem.Challenge.rw_talkwatch_k79_refusals_made) (n := 63) (k := 5) (x := "_law_script") (CX := fun _ => L2.CX0) (sp := fun w => K79.spLaw _) rfl (by decide) rfl ⟨rfl, by decide, by decide⟩ (fun w h Y => PySem.W.kIn_of Y) ?F (fun _ _ a ns hl _ hS => ⟨a, ns, rfl, hS, hl, fun _ => rfl⟩) (fun _ _ _ _ _ h => h)
  case F =>
    intro w mg fa h KX G hmg
    refine' K79.all_mk KX G hmg ?n_TalkError ?x_TalkError ?i_TalkError ?rd_TalkError ?gc_TalkError ?v_TalkError ?n_NoTalk ?x_NoTalk ?i_NoTalk ?l_NoTalk ?c_NoTalk ?k_NoTalk ?t_NoTalk ?d_NoTalk ?f_NoTalk_why ?n_Unchained ?x_Unchained ?i_Unchained ?l_Unchained ?c_Unchained ?k_Unchained ?t_Unchained ?d_Unchained ?f_Unchained_one ?f_Unchained_other ?n_NoMachine ?x_NoMachine ?i_NoMachine ?n_Unclean ?x_Unclean ?i_Unclean ?n_NoPlain ?x_NoPlain ?i_NoPlain ?l_NoPlain ?c_NoPlain ?k_NoPlain ?t_NoPlain ?d_NoPlain ?f_NoPlain_state ?n_NoPart ?x_NoPart ?i_NoPart ?l_NoPart ?c_NoPart ?k_NoPart ?t_NoPart ?d_NoPart ?f_NoPart_hand ?n_NoLot ?x_NoLot ?i_NoLot ?n_TooMany ?x_TooMany ?i_TooMany ?n_NoProgram ?x_NoProgram ?i_NoProgram ?l_NoProgram ?c_NoProgram ?k_NoProgram ?t_NoProgram ?d_NoProgram ?f_NoProgram_row ?n_Wrong ?x_Wrong ?i_Wrong ?l_Wrong ?c_Wrong ?k_Wrong ?t_Wrong ?d_Wrong ?u_Wrong_1 ?u_Wrong_2 ?f_Wrong_exchange ?f_Wrong_blamed ?f_Wrong_wanted ?n_Taken ?x_Taken ?i_Taken ?l_Taken ?c_Taken ?k_Taken ?t_Taken ?d_Taken ?f_Taken_name ?n_Going ?x_Going ?i_Going ?n_NoDeed ?x_NoDeed ?i_NoDeed ?n_Full ?x_Full ?i_Full ?n_NoText ?x_NoText ?i_NoText ?n_NoLine ?x_NoLine ?i_NoLine ?n_NoHand ?x_NoHand ?i_NoHand ?l_NoHand ?c_NoHand ?k_NoHand ?t_NoHand ?d_NoHand ?f_NoHand_hand ?n_NoName ?x_NoName ?i_NoName ?l_NoName ?c_NoName ?k_NoName ?t_NoName ?d_NoName ?f_NoName_name ?n_NoState ?x_NoState ?i_NoState ?l_NoState ?c_NoState ?k_NoState ?t_NoState ?d_NoState ?f_NoState_state ?v_IndexError ?v_KeyError ?kt ?a0 ?l0 ?c0 ?k0 ?a1 ?l1 ?c1 ?k1 ?a2 ?l2 ?c2 ?k2 ?a3 ?l3 ?c3 ?k3 ?a4 ?l4 ?c4 ?k4 ?a5 ?l5 ?c5 ?k5 ?a6 ?l6 ?c6 ?k6 ?a7 ?l7 ?c7 ?k7 ?z0 ?z1 ?z2 ?z3 ?z4 ?z5 ?z6 ?z7
    (case n_TalkError => k_is)
    (case x_TalkError => kernel_rfl)
    (case i_TalkError => k_is)
    (case rd_TalkError => kernel_rfl)
    (case gc_TalkError => kernel_rfl)
    (case v_TalkError => k_is)
    (case n_NoTalk => k_is)
    (case x_NoTalk => kernel_rfl)
    (case i_NoTalk => k_is)
    (case l_NoTalk => k_is)
    (case c_NoTalk => k_is)
    (case k_NoTalk => k_is)
    (case t_NoTalk => k_is)
    (case d_NoTalk => k_is)
    (case f_NoTalk_why => k_is)
    (case n_Unchained => k_is)
    (case x_Unchained => kernel_rfl)
    (case i_Unchained => k_is)
    (case l_Unchained => k_is)
    (case c_Unchained => k_is)
    (case k_Unchained => k_is)
    (case t_Unchained => k_is)
    (case d_Unchained => k_is)
    (case f_Unchained_one => k_is)
    (case f_Unchained_other => k_is)
    (case n_NoMachine => k_is)
    (case x_NoMachine => kernel_rfl)
    (case i_NoMachine => k_is)
    (case n_Unclean => k_is)
    (case x_Unclean => kernel_rfl)
    (case i_Unclean => k_is)
    (case n_NoPlain => k_is)
    (case x_NoPlain => kernel_rfl)
    (case i_NoPlain => k_is)
    (case l_NoPlain => k_is)
    (case c_NoPlain => k_is)
    (case k_NoPlain => k_is)
    (case t_NoPlain => k_is)
    (case d_NoPlain => k_is)
    (case f_NoPlain_state => k_is)
    (case n_NoPart => k_is)
    (case x_NoPart => kernel_rfl)
    (case i_NoPart => k_is)
    (case l_NoPart => k_is)
    (case c_NoPart => k_is)
    (case k_NoPart => k_is)
    (case t_NoPart => k_is)
    (case d_NoPart => k_is)
    (case f_NoPart_hand => k_is)
    (case n_NoLot => k_is)
    (case x_NoLot => kernel_rfl)
    (case i_NoLot => k_is)
    (case n_TooMany => k_is)
    (case x_TooMany => kernel_rfl)
    (case i_TooMany => k_is)
    (case n_NoProgram => k_is)
    (case x_NoProgram => kernel_rfl)
    (case i_NoProgram => k_is)
    (case l_NoProgram => k_is)
    (case c_NoProgram => k_is)
    (case k_NoProgram => k_is)
    (case t_NoProgram => k_is)
    (case d_NoProgram => k_is)
    (case f_NoProgram_row => k_is)
    (case n_Wrong => k_is)
    (case x_Wrong => kernel_rfl)
    (case i_Wrong => k_is)
    (case l_Wrong => k_is)
    (case c_Wrong => k_is)
    (case k_Wrong => k_is)
    (case t_Wrong => k_is)
    (case d_Wrong => k_is)
    (case u_Wrong_1 => k_is)
    (case u_Wrong_2 => k_is)
    (case f_Wrong_exchange => k_is)
    (case f_Wrong_blamed => k_is)
    (case f_Wrong_wanted => k_is)
    (case n_Taken => k_is)
    (case x_Taken => kernel_rfl)
    (case i_Taken => k_is)
    (case l_Taken => k_is)
    (case c_Taken => k_is)
    (case k_Taken => k_is)
    (case t_Taken => k_is)
    (case d_Taken => k_is)
    (case f_Taken_name => k_is)
    (case n_Going => k_is)
    (case x_Going => kernel_rfl)
    (case i_Going => k_is)
    (case n_NoDeed => k_is)
    (case x_NoDeed => kernel_rfl)
    (case i_NoDeed => k_is)
    (case n_Full => k_is)
    (case x_Full => kernel_rfl)
    (case i_Full => k_is)
    (case n_NoText => k_is)
    (case x_NoText => kernel_rfl)
    (case i_NoText => k_is)
    (case n_NoLine => k_is)
    (case x_NoLine => kernel_rfl)
    (case i_NoLine => k_is)
    (case n_NoHand => k_is)
    (case x_NoHand => kernel_rfl)
    (case i_NoHand => k_is)
    (case l_NoHand => k_is)
    (case c_NoHand => k_is)
    (case k_NoHand => k_is)
    (case t_NoHand => k_is)
    (case d_NoHand => k_is)
    (case f_NoHand_hand => k_is)
    (case n_NoName => k_is)
    (case x_NoName => kernel_rfl)
    (case i_NoName => k_is)
    (case l_NoName => k_is)
    (case c_NoName => k_is)
    (case k_NoName => k_is)
    (case t_NoName => k_is)
    (case d_NoName => k_is)
    (case f_NoName_name => k_is)
    (case n_NoState => k_is)
    (case x_NoState => kernel_rfl)
    (case i_NoState => k_is)
    (case l_NoState => k_is)
    (case c_NoState => k_is)
    (case k_NoState => k_is)
    (case t_NoState => k_is)
    (case d_NoState => k_is)
    (case f_NoState_state => k_is)
    (case v_IndexError => kernel_rfl)
    (case v_KeyError => kernel_rfl)
    (case kt => kernel_rfl)
    (case a0 => k_is)
    (case l0 => k_is)
    (case c0 => k_is)
    (case k0 => k_is)
    (case a1 => k_is)
    (case l1 => k_is)
    (case c1 => k_is)
    (case k1 => k_is)
    (case a2 => k_is)
    (case l2 => k_is)
    (case c2 => k_is)
    (case k2 => k_is)
    (case a3 => k_is)
    (case l3 => k_is)
    (case c3 => k_is)
    (case k3 => k_is)
    (case a4 => k_is)
    (case l4 => k_is)
    (case c4 => k_is)
    (case k4 => k_is)
    (case a5 => k_is)
    (case l5 => k_is)
    (case c5 => k_is)
    (case k5 => k_is)
    (case a6 => k_is)
    (case l6 => k_is)
    (case c6 => k_is)
    (case k6 => k_is)
    (case a7 => k_is)
    (case l7 => k_is)
    (case c7 => k_is)
    (case k7 => k_is)
    (case z0 => k_is)
    (case z1 => k_is)
    (case z2 => k_is)
    (case z3 => k_is)
    (case z4 => k_is)
    (case z5 => k_is)
    (case z6 => k_is)
    (case z7 => k_is)
