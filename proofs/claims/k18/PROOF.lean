import PyProof.Rows.All
import Wide.All
import OpenK.AllK
import Wide.FinOn
import HandS.ForMost
import HandS.Deep
import HandS.Style
import HandS.Wide
import HandS.WideBits
import HandS.IsInst
import KE.DataEq
import PySem.Challenge.RW_talkwatch_k18_views
set_option Elab.async false
set_option linter.all false
set_option maxRecDepth 100000
set_option maxHeartbeats 4000000
/-! Ly: data in an abstract heap (Dq), a frozen part within a heap (Fr), what an expression evaluates to as data (EvF, EvO, EvT, EvA). -/
namespace Ly
open PySem PySem.Spec PyProof.Rows L2

/-! ### data -/
def keyD : Key → PyData
  | .inl i => .int i
  | .inr s => .str s
mutual
inductive Dq (H : Hp) : V → PyData → Prop
  | non : Dq H .non .none
  | bl (b : Bool) : Dq H (.bl b) (.bool b)
  | int (i : Int) : Dq H (.int i) (.int i)
  | str (x : Str) : Dq H (.str x) (.str x)
  | lst {a : Addr} {xs : List V} {ds : List PyData} : H a = some (.lst xs) → DqAll H xs ds → Dq H (.ref a) (.list ds)
  | tup {a : Addr} {xs : List V} {ds : List PyData} : H a = some (.tup xs) → DqAll H xs ds → Dq H (.ref a) (.tuple ds)
  | dK {a : Addr} {kvs : List (Key × V)} {ds : List PyData} : H a = some (.dK kvs) → DqAll H (kvs.map (·.2)) ds → Dq H (.ref a) (.dict ((kvs.map fun kv => keyD kv.1).zip ds))
  | dT {a : Addr} {kvs : List (List Key × V)} {ds : List PyData} : H a = some (.dT kvs) → DqAll H (kvs.map (·.2)) ds → Dq H (.ref a) (.dict ((kvs.map fun kv => PyData.tuple (kv.1.map keyD)).zip ds))
inductive DqAll (H : Hp) : List V → List PyData → Prop
  | nil : DqAll H [] []
  | cons {v : V} {vs : List V} {d : PyData} {ds : List PyData} : Dq H v d → DqAll H vs ds → DqAll H (v :: vs) (d :: ds)
end
section
variable {H H' : Hp} {K : PySem.W.Frag}
mutual
theorem Dq.mono (k : ∀ a o, H a = some o → H' a = some o) : ∀ {v : V} {d : PyData}, Dq H v d → Dq H' v d
  | _, _, .non => .non
  | _, _, .bl b => .bl b
  | _, _, .int i => .int i
  | _, _, .str x => .str x
  | _, _, .lst e h => .lst (k _ _ e) (DqAll.mono k h)
  | _, _, .tup e h => .tup (k _ _ e) (DqAll.mono k h)
  | _, _, .dK e h => .dK (k _ _ e) (DqAll.mono k h)
  | _, _, .dT e h => .dT (k _ _ e) (DqAll.mono k h)
theorem DqAll.mono (k : ∀ a o, H a = some o → H' a = some o) : ∀ {vs : List V} {ds : List PyData}, DqAll H vs ds → DqAll H' vs ds
  | _, _, .nil => .nil
  | _, _, .cons h t => .cons (Dq.mono k h) (DqAll.mono k t)
end
mutual
theorem Dq.dp : ∀ {v : V} {d : PyData}, Dq H v d → d.plain = true → Dp K H v d
  | _, _, .non, _ => .non
  | _, _, .bl b, _ => .bl b
  | _, _, .int i, _ => .int i
  | _, _, .str x, _ => .str x
  | _, _, .lst e h, p => .lst (SqL.of e) (DqAll.dp h (by simpa only [PyData.plain] using p))
  | _, _, .tup e h, p => .tup (SqT.of e) (DqAll.dp h (by simpa only [PyData.plain] using p))
  | _, _, .dK e h, p => by simp only [PyData.plain] at p; cases p
  | _, _, .dT e h, p => by simp only [PyData.plain] at p; cases p
theorem DqAll.dp : ∀ {vs : List V} {ds : List PyData}, DqAll H vs ds → PyData.plainAll ds = true → DpAll K H vs ds
  | _, _, .nil, _ => .nil
  | _, _, .cons h t, p => by
    simp only [PyData.plainAll, Bool.and_eq_true] at p
    exact .cons (Dq.dp h p.1) (DqAll.dp t p.2)
end
theorem DqAll.length : ∀ {vs : List V} {ds : List PyData}, DqAll H vs ds → vs.length = ds.length
  | _, _, .nil => rfl
  | _, _, .cons _ t => by rw [List.length_cons, List.length_cons, DqAll.length t]
theorem DqAll.get : ∀ {vs : List V} {ds : List PyData} {i : Nat} {d : PyData}, DqAll H vs ds → ds[i]? = some d → ∃ v, vs[i]? = some v ∧ Dq H v d
  | _, _, _, _, .nil, e => by simp at e
  | _, _, 0, _, .cons h _, e => by simp at e; subst e; exact ⟨_, rfl, h⟩
  | _, _, i + 1, _, .cons _ t, e => by simpa using DqAll.get (i := i) t (by simpa using e)
theorem DqAll.getV : ∀ {vs : List V} {ds : List PyData} {i : Nat} {v : V}, DqAll H vs ds → vs[i]? = some v → ∃ d, ds[i]? = some d ∧ Dq H v d
  | _, _, _, _, .nil, e => by simp at e
  | _, _, 0, _, .cons h _, e => by simp at e; subst e; exact ⟨_, rfl, h⟩
  | _, _, i + 1, _, .cons _ t, e => by simpa using DqAll.getV (i := i) t (by simpa using e)
theorem DqAll.append : ∀ {vs ws : List V} {ds es : List PyData}, DqAll H vs ds → DqAll H ws es → DqAll H (vs ++ ws) (ds ++ es)
  | _, _, _, _, .nil, s => s
  | _, _, _, _, .cons h t, s => .cons h (DqAll.append t s)
theorem DqAll.take : ∀ {vs : List V} {ds : List PyData} (n : Nat), DqAll H vs ds → DqAll H (vs.take n) (ds.take n)
  | _, _, 0, _ => .nil
  | _, _, _ + 1, .nil => .nil
  | _, _, n + 1, .cons h t => .cons h (DqAll.take n t)
theorem DqAll.drop : ∀ {vs : List V} {ds : List PyData} (n : Nat), DqAll H vs ds → DqAll H (vs.drop n) (ds.drop n)
  | _, _, 0, r => r
  | _, _, _ + 1, .nil => .nil
  | _, _, n + 1, .cons _ t => DqAll.drop n t
theorem DqAll.reverse : ∀ {vs : List V} {ds : List PyData}, DqAll H vs ds → DqAll H vs.reverse ds.reverse
  | _, _, .nil => .nil
  | _, _, .cons h t => by
    rw [List.reverse_cons, List.reverse_cons]
    exact DqAll.append (DqAll.reverse t) (.cons h .nil)
theorem DqAll.eraseIdx : ∀ {vs : List V} {ds : List PyData} (i : Nat), DqAll H vs ds → DqAll H (vs.eraseIdx i) (ds.eraseIdx i)
  | _, _, _, .nil => .nil
  | _, _, 0, .cons _ t => t
  | _, _, i + 1, .cons h t => .cons h (DqAll.eraseIdx i t)
theorem Dq.intE {v : V} {i : Int} (h : Dq H v (.int i)) : v = .int i := by cases h; rfl
theorem Dq.blE {v : V} {b : Bool} (h : Dq H v (.bool b)) : v = .bl b := by cases h; rfl
theorem Dq.strE {v : V} {b : Str} (h : Dq H v (.str b)) : v = .str b := by cases h; rfl
theorem Dq.lstE {v : V} {ds : List PyData} (h : Dq H v (.list ds)) : ∃ a xs, v = .ref a ∧ H a = some (.lst xs) ∧ DqAll H xs ds := by cases h with | lst e h => exact ⟨_, _, rfl, e, h⟩
theorem Dq.tupE {v : V} {ds : List PyData} (h : Dq H v (.tuple ds)) : ∃ a xs, v = .ref a ∧ H a = some (.tup xs) ∧ DqAll H xs ds := by cases h with | tup e h => exact ⟨_, _, rfl, e, h⟩
theorem DqAll.strs : ∀ (ss : List Str), DqAll H (ss.map V.str) (ss.map PyData.str)
  | [] => .nil
  | s :: ss => .cons (.str s) (DqAll.strs ss)
theorem DqAll.strsE : ∀ {vs : List V} {ss : List Str}, DqAll H vs (ss.map PyData.str) → vs = ss.map V.str
  | _, [], h => by cases h; rfl
  | _, s :: ss, h => by
    cases h with
    | cons h t => rw [h.strE, DqAll.strsE t]; rfl
end

/-! ### a frozen part F of a heap H, grown to F2 within H2; what stands at M may have changed -/
structure Fr (M : Addr → Prop) (F H F2 H2 : Hp) : Prop where
  ff : Same F F2
  fh : Same F2 H2
  hh : ∀ a o, H a = some o → ¬ M a → H2 a = some o
  st : ∀ a, H2 a = none → H a = none
  nw : ∀ a o, F a = none → H a = some o → F2 a = none
abbrev M0 : Addr → Prop := fun _ => False
section
variable {M N : Addr → Prop} {F H F1 H1 F2 H2 : Hp} {p : Addr} {o o' : HO}
theorem Fr.refl (s : Same F H) : Fr M F H F H := ⟨fun _ _ h => h, s, fun _ _ h _ => h, fun _ h => h, fun _ _ h _ => h⟩
theorem Fr.trans (a : Fr M F H F1 H1) (b : Fr M F1 H1 F2 H2) : Fr M F H F2 H2 where
  ff := fun x o h => b.ff x o (a.ff x o h)
  fh := b.fh
  hh := fun x o h n => b.hh x o (a.hh x o h n) n
  st := fun x h => a.st x (b.st x h)
  nw := fun x o h1 h2 => by
    have n1 := a.nw x o h1 h2
    cases e : H1 x with
    | none => rw [a.st x e] at h2; cases h2
    | some u => exact b.nw x u n1 e
theorem Fr.mono (a : Fr M F H F1 H1) (h : ∀ x, M x → N x) : Fr N F H F1 H1 := ⟨a.ff, a.fh, fun x o e n => a.hh x o e fun z => n (h x z), a.st, a.nw⟩
theorem Fr.up (a : Fr M0 F H F1 H1) : Fr N F H F1 H1 := a.mono fun _ z => z.elim
theorem Fr.new (s : Same F H) (n : H p = none) : Fr M F H (upd F p o) (upd H p o) := by
  have nf : F p = none := s.free n
  refine ⟨fun a u e => ?_, fun a u e => ?_, fun a u e _ => ?_, fun a e => ?_, fun a u e1 e2 => ?_⟩
  · rw [upd_ne (ne_of_none e nf)]; exact e
  · by_cases h : a = p
    · subst h; rw [upd_same] at e ⊢; exact e
    · rw [upd_ne h] at e ⊢; exact s _ _ e
  · rw [upd_ne (ne_of_none e n)]; exact e
  · by_cases h : a = p
    · subst h; exact n
    · rw [upd_ne h] at e; exact e
  · rw [upd_ne (ne_of_none e2 n)]; exact e1
/-- a new object that isn't frozen -/
theorem Fr.own (s : Same F H) (n : H p = none) : Fr M F H F (upd H p o) := by
  refine ⟨fun a u e => e, fun a u e => ?_, fun a u e _ => ?_, fun a e => ?_, fun a u e1 _ => e1⟩
  · rw [upd_ne (ne_of_none (s _ _ e) n)]; exact s _ _ e
  · rw [upd_ne (ne_of_none e n)]; exact e
  · by_cases h : a = p
    · subst h; exact n
    · rw [upd_ne h] at e; exact e
/-- an object that isn't frozen is changed -/
theorem Fr.put (s : Same F H) (nf : F p = none) (m : M p) : Fr M F H F (upd H p o) := by
  refine ⟨fun a u e => e, fun a u e => ?_, fun a u e h => ?_, fun a e => ?_, fun a u e1 _ => e1⟩
  · rw [upd_ne (ne_of_none e nf)]; exact s _ _ e
  · rw [upd_ne (fun z => h (by rw [z]; exact m))]; exact e
  · by_cases h : a = p
    · subst h; rw [upd_same] at e; cases e
    · rw [upd_ne h] at e; exact e
/-- what was new is frozen -/
theorem Fr.take (a : Fr M F H F2 H2) (n : H p = none) (h : H2 p = some o) : Fr M F H (upd F2 p o) H2 := by
  refine ⟨fun x u e => ?_, fun x u e => ?_, a.hh, a.st, fun x u e1 e2 => ?_⟩
  · by_cases q : x = p
    · subst q
      rw [a.fh _ _ (a.ff _ _ e)] at h
      rw [upd_same]; exact h.symm
    · rw [upd_ne q]; exact a.ff _ _ e
  · by_cases q : x = p
    · subst q; rw [upd_same] at e; rw [← e]; exact h
    · rw [upd_ne q] at e; exact a.fh _ _ e
  · rw [upd_ne (ne_of_none e2 n)]; exact a.nw _ _ e1 e2
theorem Fr.same (a : Fr M F H F2 H2) : Same F F2 := a.ff
theorem Fr.inn (a : Fr M F H F2 H2) : Same F2 H2 := a.fh
end

/-! ### what expressions evaluate to -/
def EvF (te : TE) (σ : L2.St) (F : Hp) (d : PyData) : Prop := ∀ H, Same F H → ∀ Q : VK, (∀ v F2 H2, Fr M0 F H F2 H2 → Dq F2 v d → Q v H2) → te σ H Q
/-- a new list, not yet frozen -/
def EvO (te : TE) (σ : L2.St) (F : Hp) (ds : List PyData) : Prop := ∀ H, Same F H → ∀ Q : VK, (∀ p vs F2 H2, Fr M0 F H F2 H2 → H p = none → F2 p = none → H2 p = some (.lst vs) → DqAll F2 vs ds → Q (.ref p) H2) → te σ H Q
def EvT (tt : TT) (σ : L2.St) (F : Hp) (b : Bool) : Prop := ∀ H, Same F H → ∀ Q : Bool → Hp → Prop, (∀ F2 H2, Fr M0 F H F2 H2 → Q b H2) → tt σ H Q
def EvA (ta : TA) (σ : L2.St) (F : Hp) (ds : List PyData) : Prop := ∀ H, Same F H → ∀ Q : List V → Hp → Prop, (∀ vs F2 H2, Fr M0 F H F2 H2 → DqAll F2 vs ds → Q vs H2) → ta σ H Q
def EvI (to : TO) (σ : L2.St) (F : Hp) (o : Option Int) : Prop := ∀ H, Same F H → ∀ Q : Option Int → Hp → Prop, (∀ F2 H2, Fr M0 F H F2 H2 → Q o H2) → to σ H Q

section
variable {K : PySem.W.Frag} {σ : L2.St} {F F1 H : Hp} {ta tb te tx : TE} {t u : TT} {d e : PyData} {ds es : List PyData} {v : V}
theorem EvF.mono (k : Same F F1) (h : EvF te σ F d) : EvF te σ F1 d := fun H s Q q => h H (fun a o e => s a o (k a o e)) Q fun v F2 H2 fr dv => by
  have fr' : Fr M0 F1 H (fun a => match F1 a with | some o => some o | none => F2 a) H2 := by
    refine ⟨fun a o e => ?_, fun a o e => ?_, fr.hh, fr.st, fun a o e1 e2 => ?_⟩
    · show (match F1 a with | some o => some o | none => F2 a) = some o
      rw [e]
    · have e : (match F1 a with | some o => some o | none => F2 a) = some o := e
      cases z : F1 a with
      | some u => rw [z] at e; exact fr.hh _ _ (s _ _ (z.trans e)) fun z => z
      | none => rw [z] at e; exact fr.fh _ _ e
    · show (match F1 a with | some o => some o | none => F2 a) = none
      rw [e1]
      refine fr.nw a o ?_ e2
      cases z : F a with
      | none => rfl
      | some u => rw [k _ _ z] at e1; cases e1
  refine q v _ H2 fr' (dv.mono fun a o e => ?_)
  show (match F1 a with | some o => some o | none => F2 a) = some o
  cases z : F1 a with
  | none => exact e
  | some u =>
    show some u = some o
    have h1 := fr.fh _ _ e
    rw [fr.hh _ _ (s _ _ z) fun z => z] at h1
    exact h1
theorem ev_var {i : Nat} (h : σ[i]? = some (some v)) (hv : Dq F v d) : EvF (tVar i) σ F d := fun H s Q q => ⟨v, h, q v F H (Fr.refl s) hv⟩
theorem ev_c (hv : ∀ F, Dq F v d) : EvF (tC v) σ F d := fun H s Q q => q v F H (Fr.refl s) (hv _)
theorem ev_int {i : Int} : EvF (tC (.int i)) σ F (.int i) := ev_c fun _ => .int i
theorem ev_bl {i : Bool} : EvF (tC (.bl i)) σ F (.bool i) := ev_c fun _ => .bl i
theorem ev_str {i : Str} : EvF (tC (.str i)) σ F (.str i) := ev_c fun _ => .str i
theorem ev_non : EvF (tC .non) σ F .none := ev_c fun _ => .non
theorem EvO.f (h : EvO te σ F ds) : EvF te σ F (.list ds) := fun H s Q q => h H s Q fun p vs F2 H2 fr np nf hp dv =>
  q _ (upd F2 p (.lst vs)) H2 (fr.take np hp) (.lst upd_same (dv.mono fun a o e => by rw [upd_ne (ne_of_none e nf)]; exact e))
/-- a two-place operation -/
theorem ev_op {r : R2} {z : PyData} (ha : EvF ta σ F d) (hb : ∀ F1, Same F F1 → EvF tb σ F1 e)
    (hr : ∀ x y F1 H1 (Q : VK), Same F1 H1 → Dq F1 x d → Dq F1 y e → (∀ v F2 H2, Fr M0 F1 H1 F2 H2 → Dq F2 v z → Q v H2) → r x y H1 Q) : EvF (tOp r ta tb) σ F z := fun H s Q q =>
  ha H s _ fun x F1 H1 fr1 dx => hb F1 fr1.ff H1 fr1.fh _ fun y F2 H2 fr2 dy => hr x y F2 H2 Q fr2.fh (dx.mono fr2.ff) dy fun v F3 H3 fr3 dv => q v F3 H3 ((fr1.trans fr2).trans fr3) dv
theorem ev_I0 {g : Int → Int → V} {i j : Int} {z : PyData} (ha : EvF ta σ F (.int i)) (hb : EvF tb σ F (.int j)) (hz : ∀ F, Dq F (g i j) z) : EvF (tOp (rI0 g) ta tb) σ F z :=
  ev_op ha (fun _ k => hb.mono k) fun x y F1 H1 Q s dx dy q => ⟨i, j, dx.intE, dy.intE, q _ F1 H1 (Fr.refl s) (hz _)⟩
theorem ev_I {C : Int → Int → Prop} {g : Int → Int → V} {i j : Int} {z : PyData} (ha : EvF ta σ F (.int i)) (hb : EvF tb σ F (.int j)) (hc : C i j) (hz : ∀ F, Dq F (g i j) z) : EvF (tOp (rI C g) ta tb) σ F z :=
  ev_op ha (fun _ k => hb.mono k) fun x y F1 H1 Q s dx dy q => ⟨i, j, dx.intE, dy.intE, hc, q _ F1 H1 (Fr.refl s) (hz _)⟩
end

/-! ### operators over data of any depth -/
section
variable {X : Cx}
def rEqQ : R2 := fun x y H Q => ∃ d e, Dq H x d ∧ Dq H y e ∧ d.plain = true ∧ e.plain = true ∧ d.depth ≤ 60 ∧ Q (.bl (PyData.eqv d e)) H
def rNeQ : R2 := fun x y H Q => ∃ d e, Dq H x d ∧ Dq H y e ∧ d.plain = true ∧ e.plain = true ∧ d.depth ≤ 60 ∧ Q (.bl (!PyData.eqv d e)) H
theorem op_eqQ (hu : X.A.units + 64 < cLine) : OpR X (compareOp .Eq) rEqQ := by
  intro pins s σ H x y v u Q I rx ry h
  obtain ⟨d, e, hd, he, sd, se, dp, q⟩ := h
  obtain ⟨as, r1⟩ := Dp.reads I d x v (hd.dp sd) rx
  obtain ⟨bs, r2⟩ := Dp.reads I e y u (he.dp se) ry
  exact SeqAt.eq_plain r1 r2 sd se (Nat.lt_of_le_of_lt (Nat.add_le_add_left (Nat.le_trans (Nat.min_le_left _ _) (Nat.le_trans dp (by decide))) _) hu) ⟨.bl _, H, I, rfl, q⟩
theorem op_neQ (hu : X.A.units + 64 < cLine) : OpR X (compareOp .NotEq) rNeQ := by
  intro pins s σ H x y v u Q I rx ry h
  obtain ⟨d, e, hd, he, sd, se, dp, q⟩ := h
  obtain ⟨as, r1⟩ := Dp.reads I d x v (hd.dp sd) rx
  obtain ⟨bs, r2⟩ := Dp.reads I e y u (he.dp se) ry
  exact SeqAt.ne_plain r1 r2 sd se (Nat.lt_of_le_of_lt (Nat.add_le_add_left (Nat.le_trans (Nat.min_le_left _ _) (Nat.le_trans dp (by decide))) _) hu) ⟨.bl _, H, I, rfl, q⟩
/-- x in a list or tuple -/
def rInQ (neg : Bool) : R2 := fun x y H Q => ∃ d ds, Dq H x d ∧ (Dq H y (.list ds) ∨ Dq H y (.tuple ds)) ∧ d.plain = true ∧ PyData.plainAll ds = true ∧ d.depth ≤ 60 ∧ Q (.bl (if neg then !(ds.any fun z => PyData.eqv z d) else ds.any fun z => PyData.eqv z d)) H
theorem in_room {A : Around} {ds : List PyData} {d : PyData} (hu : A.units + 64 < cLine) (h : d.depth ≤ 60) : A.units + 1 + min (PyData.depthAll ds) d.depth < cLine := by
  have := Nat.min_le_right (PyData.depthAll ds) d.depth
  omega
theorem op_inQ (hu : X.A.units + 64 < cLine) : OpR X (compareOp .In) (rInQ false) := by
  intro pins s σ H x y v u Q I rx ry h
  obtain ⟨d, ds, hd, he, sd, se, dp, q⟩ := h
  obtain ⟨as, r1⟩ := Dp.reads I d x v (hd.dp sd) rx
  rcases he with he | he
  · obtain ⟨bs, r2⟩ := Dp.reads I (.list ds) y u (he.dp (by simpa only [PyData.plain] using se)) ry
    exact SeqAt.in_list_data r2 r1 se sd (in_room hu dp) ⟨.bl _, H, I, rfl, q⟩
  · obtain ⟨bs, r2⟩ := Dp.reads I (.tuple ds) y u (he.dp (by simpa only [PyData.plain] using se)) ry
    exact SeqAt.in_tuple_data r2 r1 se sd (in_room hu dp) ⟨.bl _, H, I, rfl, q⟩
theorem op_niQ (hu : X.A.units + 64 < cLine) : OpR X (compareOp .NotIn) (rInQ true) := by
  intro pins s σ H x y v u Q I rx ry h
  obtain ⟨d, ds, hd, he, sd, se, dp, q⟩ := h
  obtain ⟨as, r1⟩ := Dp.reads I d x v (hd.dp sd) rx
  rcases he with he | he
  · obtain ⟨bs, r2⟩ := Dp.reads I (.list ds) y u (he.dp (by simpa only [PyData.plain] using se)) ry
    exact SeqAt.notIn_list_data r2 r1 se sd (in_room hu dp) ⟨.bl _, H, I, rfl, q⟩
  · obtain ⟨bs, r2⟩ := Dp.reads I (.tuple ds) y u (he.dp (by simpa only [PyData.plain] using se)) ry
    exact SeqAt.notIn_tuple_data r2 r1 se sd (in_room hu dp) ⟨.bl _, H, I, rfl, q⟩
/-- len of a list or tuple (script, too) -/
def rLenQ (K : PySem.W.Frag) : List V → Hp → VK → Prop := fun xs H Q => ∃ p ys, xs = [.ref p] ∧ (SqL K H p ys ∨ SqT K H p ys) ∧ Q (.int ys.length) H
theorem call_lenQ : CallR X (.builtin "len") (rLenQ X.K) := call_len_seq
/-- a ** b of middling size -/
def CPowW (i j : Int) : Prop := 0 ≤ j ∧ (Builtin.Int.intBits i : Int) * j ≤ 2 ^ 27
theorem op_powW : OpR X (binaryOp .Pow) (rI CPowW fun i j => .int (i ^ j.toNat)) := opI fun _ _ _ _ _ _ _ hc q => pow_int hc.1 hc.2 q
end
/-! ### the rules with K told (within a comprehension's block the context is another, K the same) -/
section
variable {X : Cx} {te to : TE} {t : TA} {e o : Expr} {es : List Expr} {T id : String} {name : Str} {r : V → List V → Hp → VK → Prop}
theorem ix_seqK (K : PySem.W.Frag) (h : X.K = K) : IxR X (rIx K) := by subst h; exact ix_seq
theorem sl_listK (K : PySem.W.Frag) (h : X.K = K) : SlR X (rSlL K) := by subst h; exact sl_list
theorem sl_tupK (K : PySem.W.Frag) (h : X.K = K) : SlR X (rSlT K) := by subst h; exact sl_tup
theorem call_lenK (K : PySem.W.Frag) (h : X.K = K) : CallR X (.builtin "len") (rLenQ K) := by subst h; exact call_lenQ
def rListOf (K : PySem.W.Frag) : List V → Hp → VK → Prop := fun xs H Q => ∃ p ys, xs = [.ref p] ∧ (SqL K H p ys ∨ SqT K H p ys) ∧ ∀ l, H l = none → Q (.ref l) (upd H l (.lst ys))
theorem call_listK (K : PySem.W.Frag) (h : X.K = K) : CallR X (.type "list") (rListOf K) := by subst h; exact call_list_of
theorem call_isiK' (K : PySem.W.Frag) (h : X.K = K) : CallR X (.builtin "isinstance") (rIsi K) := by subst h; exact call_isi
theorem pe_revLK (K : PySem.W.Frag) (h : X.K = K) {k : Nat} {p1 p2 p3 pos : Pos} (he : PE X e te) : PE X (.Subscript e (.Slice none none (some (.UnaryOp .USub (.Constant (.int 1) k p1) p2)) p3) pos) (tRevL K te) := by subst h; exact pe_revL he
theorem pi_listK (K : PySem.W.Frag) (h : X.K = K) {tg : Expr} (he : PE X e te) : PI X tg e (iList K te) := by subst h; exact pi_list he
theorem pi_tupK (K : PySem.W.Frag) (h : X.K = K) {tg : Expr} (he : PE X e te) : PI X tg e (iTup K te) := by subst h; exact pi_tup he
theorem bmK (K : PySem.W.Frag) (h : X.K = K) (p : PE X e (tBM X.K T r to t)) : PE X e (tBM K T r to t) := by subst h; exact p
theorem bm0K (K : PySem.W.Frag) (h : X.K = K) (p : PE X e (tBM0 X.K T r to)) : PE X e (tBM0 K T r to) := by subst h; exact p
theorem fldK (K : PySem.W.Frag) (h : X.K = K) {f : Str} (p : PE X e (tFld X.K te f)) : PE X e (tFld K te f) := by subst h; exact p
end
section
variable {K : PySem.W.Frag} {σ : L2.St} {F F1 H : Hp} {ta tb te tx : TE} {t u : TT} {d e : PyData} {ds es : List PyData} {v : V}
theorem ev_neg {i : Int} (ha : EvF ta σ F (.int i)) : EvF (tUn (rU fun i => .int (-i)) ta) σ F (.int (-i)) := fun H s Q q => ha H s _ fun x F1 H1 f1 dx => ⟨i, dx.intE, q _ F1 H1 f1 (.int _)⟩
theorem ev_eq (ha : EvF ta σ F d) (hb : EvF tb σ F e) (pd : d.plain = true) (pe : e.plain = true) (dp : d.depth ≤ 60) : EvF (tOp rEqQ ta tb) σ F (.bool (PyData.eqv d e)) :=
  ev_op ha (fun _ k => hb.mono k) fun x y F1 H1 Q s dx dy q => ⟨d, e, dx.mono s, dy.mono s, pd, pe, dp, q _ F1 H1 (Fr.refl s) (.bl _)⟩
theorem ev_ne (ha : EvF ta σ F d) (hb : EvF tb σ F e) (pd : d.plain = true) (pe : e.plain = true) (dp : d.depth ≤ 60) : EvF (tOp rNeQ ta tb) σ F (.bool (!PyData.eqv d e)) :=
  ev_op ha (fun _ k => hb.mono k) fun x y F1 H1 Q s dx dy q => ⟨d, e, dx.mono s, dy.mono s, pd, pe, dp, q _ F1 H1 (Fr.refl s) (.bl _)⟩
theorem ev_in {neg : Bool} (ha : EvF ta σ F d) (hb : EvF tb σ F e) (he : e = .list ds ∨ e = .tuple ds) (pd : d.plain = true) (pe : PyData.plainAll ds = true) (dp : d.depth ≤ 60) :
    EvF (tOp (rInQ neg) ta tb) σ F (.bool (if neg then !(ds.any fun z => PyData.eqv z d) else ds.any fun z => PyData.eqv z d)) :=
  ev_op ha (fun _ k => hb.mono k) fun x y F1 H1 Q s dx dy q => ⟨d, ds, dx.mono s, he.imp (fun z => by rw [z] at dy; exact dy.mono s) (fun z => by rw [z] at dy; exact dy.mono s), pd, pe, dp, q _ F1 H1 (Fr.refl s) (.bl _)⟩
theorem ev_ixL {i : Int} (ha : EvF ta σ F (.list ds)) (hb : EvF tb σ F (.int i)) (hi : atI ds i = some d) : EvF (tOp (rIx K) ta tb) σ F d :=
  ev_op ha (fun _ k => hb.mono k) fun x y F1 H1 Q s dx dy q => by
    obtain ⟨a, xs, rfl, ex, dv⟩ := dx.lstE
    obtain ⟨j, h1, h2⟩ : ∃ j, ixN xs.length i = some j ∧ ds[j]? = some d := by
      unfold atI at hi
      rw [← dv.length] at hi
      cases z : ixN xs.length i with
      | none => rw [z] at hi; cases hi
      | some j => rw [z] at hi; exact ⟨j, rfl, hi⟩
    obtain ⟨v, hv, dv'⟩ := dv.get h2
    exact .inl ⟨a, xs, i, v, rfl, dy.intE, SqL.of (s _ _ ex), by unfold atI; rw [h1]; exact hv, q v F1 H1 (Fr.refl s) dv'⟩
theorem ev_ixT {i : Int} (ha : EvF ta σ F (.tuple ds)) (hb : EvF tb σ F (.int i)) (hi : atI ds i = some d) : EvF (tOp (rIx K) ta tb) σ F d :=
  ev_op ha (fun _ k => hb.mono k) fun x y F1 H1 Q s dx dy q => by
    obtain ⟨a, xs, rfl, ex, dv⟩ := dx.tupE
    obtain ⟨j, h1, h2⟩ : ∃ j, ixN xs.length i = some j ∧ ds[j]? = some d := by
      unfold atI at hi
      rw [← dv.length] at hi
      cases z : ixN xs.length i with
      | none => rw [z] at hi; cases hi
      | some j => rw [z] at hi; exact ⟨j, rfl, hi⟩
    obtain ⟨v, hv, dv'⟩ := dv.get h2
    exact .inr (.inl ⟨a, xs, i, v, rfl, dy.intE, SqT.of (s _ _ ex), by unfold atI; rw [h1]; exact hv, q v F1 H1 (Fr.refl s) dv'⟩)
theorem ei_none : EvI tNoPart σ F none := fun H s Q q => q F H (Fr.refl s)
theorem EvF.go (h : EvF te σ F d) {Q : VK} (s : Same F H) (q : ∀ v F2 H2, Fr M0 F H F2 H2 → Dq F2 v d → Q v H2) : te σ H Q := h H s Q q
theorem ei_some {i : Int} (h : EvF te σ F (.int i)) : EvI (tPart te) σ F (some i) := fun H s Q q => h H s _ fun v F2 H2 fr dv => ⟨i, dv.intE, q F2 H2 fr⟩
theorem EvI.mono {to : TO} {o : Option Int} (k : Same F F1) (h : EvI to σ F o) : EvI to σ F1 o := fun H s Q q => h H (fun a o e => s a o (k a o e)) Q fun F2 H2 fr =>
  q F1 H2 ⟨fun _ _ e => e, fun a o e => fr.hh _ _ (s _ _ e) fun z => z, fr.hh, fr.st, fun _ _ e _ => e⟩
def cutD (xs : List PyData) (lo hi : Option Int) : List PyData := (xs.drop (HT.sIx xs.length 0 lo)).take (HT.sIx xs.length xs.length hi - HT.sIx xs.length 0 lo)
theorem DqAll.cut {vs : List V} (h : DqAll F vs ds) (lo hi : Option Int) : DqAll F (cutV vs lo hi) (cutD ds lo hi) := by
  unfold cutV cutD
  rw [h.length]
  exact (h.drop _).take _
theorem eo_slL {tl th : TO} {lo hi : Option Int} (ha : EvF ta σ F (.list ds)) (hl : EvI tl σ F lo) (hh : EvI th σ F hi) : EvO (tSl (rSlL K) ta tl th) σ F (cutD ds lo hi) := fun H s Q q =>
  ha H s _ fun x F1 H1 f1 dx => (hl.mono f1.ff) H1 f1.fh _ fun F2 H2 f2 => (hh.mono (fun a o e => f2.ff _ _ (f1.ff _ _ e))) H2 f2.fh _ fun F3 H3 f3 => by
    obtain ⟨a, xs, rfl, ex, dv⟩ := dx.lstE
    have f := (f1.trans f2).trans f3
    exact ⟨a, xs, rfl, SqL.of (f3.fh _ _ (f3.ff _ _ (f2.ff _ _ ex))), fun p np => q p _ F3 _ (f.trans (Fr.own f3.fh np)) (f.st _ np) (f3.fh.free np) upd_same ((dv.mono fun a o e => f3.ff _ _ (f2.ff _ _ e)).cut lo hi)⟩
/-- a tuple's part, not the whole -/
theorem ev_slT {tl th : TO} {lo hi : Option Int} (ha : EvF ta σ F (.tuple ds)) (hl : EvI tl σ F lo) (hh : EvI th σ F hi) (hw : ¬ (HT.sIx ds.length 0 lo = 0 ∧ HT.sIx ds.length ds.length hi = ds.length)) : EvF (tSl (rSlT K) ta tl th) σ F (.tuple (cutD ds lo hi)) := fun H s Q q =>
  ha H s _ fun x F1 H1 f1 dx => (hl.mono f1.ff) H1 f1.fh _ fun F2 H2 f2 => (hh.mono (fun a o e => f2.ff _ _ (f1.ff _ _ e))) H2 f2.fh _ fun F3 H3 f3 => by
    obtain ⟨a, xs, rfl, ex, dv⟩ := dx.tupE
    have f := (f1.trans f2).trans f3
    refine ⟨a, xs, rfl, SqT.of (f3.fh _ _ (f3.ff _ _ (f2.ff _ _ ex))), by rw [dv.length]; exact hw, fun p np => ?_⟩
    have fn := Fr.new (M := M0) (o := .tup (cutV xs lo hi)) f3.fh np
    exact q _ _ _ (f.trans fn) (.tup upd_same (((dv.mono fun a o e => f3.ff _ _ (f2.ff _ _ e)).cut lo hi).mono fn.ff))
theorem ea_nil : EvA tNil σ F [] := fun H s Q q => q [] F H (Fr.refl s) .nil
theorem EvA.mono {ta : TA} (k : Same F F1) (h : EvA ta σ F ds) : EvA ta σ F1 ds := fun H s Q q => h H (fun a o e => s a o (k a o e)) Q fun v F2 H2 fr dv => by
  have fr' : Fr M0 F1 H (fun a => match F1 a with | some o => some o | none => F2 a) H2 := by
    refine ⟨fun a o e => ?_, fun a o e => ?_, fr.hh, fr.st, fun a o e1 e2 => ?_⟩
    · show (match F1 a with | some o => some o | none => F2 a) = some o
      rw [e]
    · have e : (match F1 a with | some o => some o | none => F2 a) = some o := e
      cases z : F1 a with
      | some u => rw [z] at e; exact fr.hh _ _ (s _ _ (z.trans e)) fun z => z
      | none => rw [z] at e; exact fr.fh _ _ e
    · show (match F1 a with | some o => some o | none => F2 a) = none
      rw [e1]
      refine fr.nw a o ?_ e2
      cases z : F a with
      | none => rfl
      | some u => rw [k _ _ z] at e1; cases e1
  refine q v _ H2 fr' (dv.mono fun a o e => ?_)
  show (match F1 a with | some o => some o | none => F2 a) = some o
  cases z : F1 a with
  | none => exact e
  | some u =>
    show some u = some o
    have h1 := fr.fh _ _ e
    rw [fr.hh _ _ (s _ _ z) fun z => z] at h1
    exact h1
theorem ea_cons {ta : TA} (he : EvF te σ F d) (ha : EvA ta σ F ds) : EvA (tCons te ta) σ F (d :: ds) := fun H s Q q =>
  he H s _ fun v F1 H1 f1 dv => (ha.mono f1.ff) H1 f1.fh _ fun vs F2 H2 f2 dvs => q _ F2 H2 (f1.trans f2) (.cons (dv.mono f2.ff) dvs)
theorem ev_tup {ta : TA} (h : EvA ta σ F ds) (hl : ds.length ≤ 10000) : EvF (tTup ta) σ F (.tuple ds) := fun H s Q q =>
  h H s _ fun vs F1 H1 f1 dvs => ⟨by rw [dvs.length]; exact Nat.le_trans hl (by decide), fun p np => by
    have fn := Fr.new (M := M0) (o := .tup vs) f1.fh np
    exact q _ _ _ (f1.trans fn) (.tup upd_same (dvs.mono fn.ff))⟩
theorem eo_lst {ta : TA} (h : EvA ta σ F ds) (hl : ds.length ≤ 10000) : EvO (tLst ta) σ F ds := fun H s Q q =>
  h H s _ fun vs F1 H1 f1 dvs => ⟨by rw [dvs.length]; exact Nat.le_trans hl (by decide), fun p np => q p vs F1 _ (f1.trans (Fr.own f1.fh np)) (f1.st _ np) (f1.fh.free np) upd_same dvs⟩
theorem eo_cat (ha : EvF ta σ F (.list ds)) (hb : EvF tb σ F (.list es)) (hl : ds.length + es.length ≤ 100000) : EvO (tOp rCat ta tb) σ F (ds ++ es) := fun H s Q q =>
  ha H s _ fun x F1 H1 f1 dx => (hb.mono f1.ff) H1 f1.fh _ fun y F2 H2 f2 dy => by
    obtain ⟨a, xs, rfl, ex, dv⟩ := dx.lstE
    obtain ⟨b, ys, rfl, ey, dw⟩ := dy.lstE
    have f := f1.trans f2
    exact ⟨a, b, xs, ys, rfl, rfl, f2.fh _ _ (f2.ff _ _ ex), f2.fh _ _ ey, by rw [dv.length, dw.length]; exact Nat.le_trans hl (by decide),
      fun p np => q p _ F2 _ (f.trans (Fr.own f2.fh np)) (f.st _ np) (f2.fh.free np) upd_same ((dv.mono f2.ff).append dw)⟩
theorem eo_rev (ha : EvF ta σ F (.list ds)) : EvO (tRevL K ta) σ F ds.reverse := fun H s Q q =>
  ha H s _ fun x F1 H1 f1 dx => by
    obtain ⟨a, xs, rfl, ex, dv⟩ := dx.lstE
    exact ⟨a, xs, rfl, SqL.of (f1.fh _ _ ex), fun p np => q p _ F1 _ (f1.trans (Fr.own f1.fh np)) (f1.st _ np) (f1.fh.free np) upd_same dv.reverse⟩
theorem eo_list (ha : EvF ta σ F (.list ds)) : EvO (tCB (rListOf K) (tCons ta tNil)) σ F ds := fun H s Q q =>
  ha H s _ fun x F1 H1 f1 dx => by
    obtain ⟨a, xs, rfl, ex, dv⟩ := dx.lstE
    exact ⟨a, xs, rfl, .inl (SqL.of (f1.fh _ _ ex)), fun p np => q p _ F1 _ (f1.trans (Fr.own f1.fh np)) (f1.st _ np) (f1.fh.free np) upd_same dv⟩
theorem ev_lenL (ha : EvF ta σ F (.list ds)) : EvF (tCB (rLenQ K) (tCons ta tNil)) σ F (.int (ds.length : Int)) := fun H s Q q =>
  ha H s _ fun x F1 H1 f1 dx => by
    obtain ⟨a, xs, rfl, ex, dv⟩ := dx.lstE
    exact ⟨a, xs, rfl, .inl (SqL.of (f1.fh _ _ ex)), by rw [dv.length]; exact q _ F1 H1 f1 (.int _)⟩
theorem ev_lenT (ha : EvF ta σ F (.tuple ds)) : EvF (tCB (rLenQ K) (tCons ta tNil)) σ F (.int (ds.length : Int)) := fun H s Q q =>
  ha H s _ fun x F1 H1 f1 dx => by
    obtain ⟨a, xs, rfl, ex, dv⟩ := dx.tupE
    exact ⟨a, xs, rfl, .inr (SqT.of (f1.fh _ _ ex)), by rw [dv.length]; exact q _ F1 H1 f1 (.int _)⟩
/-! tests -/
theorem et_test {b : Bool} (h : EvF te σ F (.bool b)) : EvT (tTest te) σ F b := fun H s Q q => h H s _ fun v F2 H2 fr dv => ⟨b, dv.blE, q F2 H2 fr⟩
theorem et_B {b : Bool} (h : EvF te σ F (.bool b)) : EvT (tB te) σ F b := fun H s Q q => h H s _ fun v F2 H2 fr dv => ⟨b, dv.blE, q F2 H2 fr⟩
theorem EvT.mono {b : Bool} (k : Same F F1) (h : EvT t σ F b) : EvT t σ F1 b := fun H s Q q => h H (fun a o e => s a o (k a o e)) Q fun F2 H2 fr =>
  q F1 H2 ⟨fun _ _ e => e, fun a o e => fr.hh _ _ (s _ _ e) fun z => z, fr.hh, fr.st, fun _ _ e _ => e⟩
theorem et_not {b : Bool} (h : EvT t σ F b) : EvT (tNot t) σ F (!b) := fun H s Q q => h H s _ fun F2 H2 fr => q F2 H2 fr
theorem et_and {a b : Bool} (h1 : EvT t σ F a) (h2 : a = true → EvT u σ F b) : EvT (tAnd t u) σ F (a && b) := fun H s Q q => h1 H s _ fun F1 H1 f1 => by
  cases a with
  | true => exact ((h2 rfl).mono f1.ff) H1 f1.fh _ fun F2 H2 f2 => q F2 H2 (f1.trans f2)
  | false => exact q F1 H1 f1
theorem et_or {a b : Bool} (h1 : EvT t σ F a) (h2 : a = false → EvT u σ F b) : EvT (tOr t u) σ F (a || b) := fun H s Q q => h1 H s _ fun F1 H1 f1 => by
  cases a with
  | true => exact q F1 H1 f1
  | false => exact ((h2 rfl).mono f1.ff) H1 f1.fh _ fun F2 H2 f2 => q F2 H2 (f1.trans f2)
theorem EvF.is {d' : PyData} (h : EvF te σ F d) (e : d = d') : EvF te σ F d' := e ▸ h
theorem EvO.is {ds' : List PyData} (h : EvO te σ F ds) (e : ds = ds') : EvO te σ F ds' := e ▸ h
theorem EvT.is {b b' : Bool} (h : EvT t σ F b) (e : b = b') : EvT t σ F b' := e ▸ h
/-! a comprehension over a list: which items, each what -/
def gathered (ds : List PyData) (f : PyData → Bool) (g : PyData → PyData) : List PyData := (ds.filter f).map g
theorem eo_lcL {tl : TE} {j : Nat} {vs : List Nat} (f : PyData → Bool) (g : PyData → PyData) (h : EvF tl σ F (.list ds)) (hz : ds.length ≤ 100000) (hw : ∀ x, wipe ((wipe σ vs).set j (some x)) vs = wipe σ vs)
    (ht : ∀ (d : PyData) (x : V) F1, d ∈ ds → Same F F1 → Dq F1 x d → EvT t ((wipe σ vs).set j (some x)) F1 (f d))
    (he : ∀ (d : PyData) (x : V) F1, d ∈ ds → Same F F1 → Dq F1 x d → f d = true → EvF te ((wipe σ vs).set j (some x)) F1 (g d)) :
    EvO (tLc (iList K tl) (gName j) t te vs) σ F (gathered ds f g) := fun H0 s Q q => h H0 s _ fun x F1 H1 f1 dx => by
  obtain ⟨a, xs, rfl, ex, dv⟩ := dx.lstE
  refine ⟨a, rfl, ⟨xs, SqL.of (f1.fh _ _ ex)⟩, fun Dl nD => ?_⟩
  refine lc_list (xs := xs) (fun i H' => ∃ F' vs', Fr (fun a => a = Dl) F1 (upd H1 Dl (.lst [])) F' H' ∧ H' Dl = some (.lst vs') ∧ DqAll F' vs' (gathered (ds.take i) f g)) ?_ ?_ ?_ ?_
  · exact ⟨F1, [], Fr.refl (fun a o e => by rw [upd_ne (ne_of_none (f1.fh _ _ e) nD)]; exact f1.fh _ _ e), upd_same, .nil⟩
  · rintro i H' _ ⟨F', vs', fr, _, _⟩
    exact SqL.of (fr.fh _ _ (fr.ff _ _ ex))
  · rintro i x H' hi ⟨F', vs', fr, hD, dvs⟩
    refine ⟨hw x, ?_⟩
    obtain ⟨d, hd, dxd⟩ := dv.getV hi
    have hmem : d ∈ ds := List.mem_of_getElem? hd
    have sF : Same F F' := fun a o e => fr.ff _ _ (f1.ff _ _ e)
    have dx' : Dq F' x d := dxd.mono fr.ff
    have nDF : F' Dl = none := fr.nw Dl _ (f1.fh.free nD) upd_same
    have hlt := (List.getElem?_eq_some_iff.mp hd).1
    have htk : ds.take (i + 1) = ds.take i ++ [d] := by rw [List.take_add_one, hd]; rfl
    refine ht d x F' hmem sF dx' H' fr.fh _ fun F2 H2 f2 => ?_
    have hD2 : H2 Dl = some (.lst vs') := f2.hh _ _ hD fun z => z
    have nD2 : F2 Dl = none := f2.nw _ _ nDF hD
    cases hf : f d with
    | true =>
      show te _ H2 _
      refine he d x F2 hmem (fun a o e => f2.ff _ _ (sF _ _ e)) (dx'.mono f2.ff) hf H2 f2.fh _ fun v F3 H3 f3 dv3 => ?_
      have hD3 : H3 Dl = some (.lst vs') := f3.hh _ _ hD2 fun z => z
      have nD3 : F3 Dl = none := f3.nw _ _ nD2 hD2
      have hl : vs'.length ≤ i := by
        rw [dvs.length]
        unfold gathered
        rw [List.length_map]
        exact Nat.le_trans (List.length_filter_le _ _) (List.length_take_le _ _)
      refine ⟨vs', hD3, Nat.lt_of_le_of_lt hl (Nat.lt_of_lt_of_le hlt (Nat.le_trans hz (by decide))), F3, vs' ++ [v], ?_, upd_same, ?_⟩
      · exact ((fr.trans f2.up).trans f3.up).trans (Fr.put f3.fh nD3 rfl)
      · have e1 : gathered (ds.take (i + 1)) f g = gathered (ds.take i) f g ++ [g d] := by
          unfold gathered
          rw [htk, List.filter_append, List.map_append, List.filter_cons, if_pos hf]
          rfl
        rw [e1]
        exact (dvs.mono fun a o e => f3.ff _ _ (f2.ff _ _ e)).append (.cons dv3 .nil)
    | false =>
      show ∃ F' vs', _
      refine ⟨F2, vs', fr.trans f2.up, hD2, ?_⟩
      have e1 : gathered (ds.take (i + 1)) f g = gathered (ds.take i) f g := by
        unfold gathered
        rw [htk, List.filter_append, List.map_append, List.filter_cons, if_neg (by rw [hf]; decide)]
        show _ ++ [] = _
        rw [List.append_nil]
      rw [e1]
      exact dvs.mono f2.ff
  · rintro H' ⟨F', vs', fr, hD, dvs⟩
    have e : ds.take xs.length = ds := List.take_of_length_le (by rw [dv.length]; exact Nat.le_refl _)
    rw [e] at dvs
    refine q Dl vs' F' H' (f1.trans ⟨fr.ff, fr.fh, fun a o e _ => ?_, fun a e => ?_, fun a o e1 e2 => ?_⟩) (f1.st _ nD) (fr.nw Dl _ (f1.fh.free nD) upd_same) hD dvs
    · exact fr.hh a o (by rw [upd_ne (ne_of_none e nD)]; exact e) (ne_of_none e nD)
    · have := fr.st a e
      by_cases z : a = Dl
      · subst z; exact nD
      · rw [upd_ne z] at this; exact this
    · exact fr.nw a o e1 (by rw [upd_ne (ne_of_none e2 nD)]; exact e2)
end

section
variable {M : Addr → Prop} {F H F2 H2 : Hp} {K : PySem.W.Frag}
/-- what was frozen on the way is left aside -/
theorem Fr.drop (a : Fr M F H F2 H2) : Fr M F H F H2 := ⟨fun _ _ e => e, fun x o e => a.fh _ _ (a.ff _ _ e), a.hh, a.st, fun _ _ e _ => e⟩
end
/-! ### slices -/
theorem sIx_neg1 (n d : Nat) (h : 0 < n) : HT.sIx n d (some (-1)) = n - 1 := by
  show (if (-1 : Int) < 0 then ((-1 : Int) + (n : Int)).toNat else min (-1 : Int).toNat n) = n - 1
  rw [if_pos (by decide)]
  omega
theorem take_min {α : Type} (xs : List α) (k : Nat) : xs.take (min k xs.length) = xs.take k := by
  by_cases h : k ≤ xs.length
  · rw [Nat.min_eq_left h]
  · rw [Nat.min_eq_right (by omega), List.take_length, List.take_of_length_le (by omega)]
theorem cutV_to (xs : List V) (k : Nat) : cutV xs none (some (k : Int)) = xs.take k := by
  unfold cutV
  rw [HT.sIx_none, HT.sIx_nat, List.drop_zero, Nat.sub_zero, take_min]
theorem cutV_from (xs : List V) (k : Nat) : cutV xs (some (k : Int)) none = xs.drop k := by
  unfold cutV
  rw [HT.sIx_none, HT.sIx_nat]
  by_cases h : k ≤ xs.length
  · rw [Nat.min_eq_left h, List.take_of_length_le (by rw [List.length_drop]; exact Nat.le_refl _)]
  · rw [Nat.min_eq_right (by omega), List.drop_length, List.drop_of_length_le (by omega), List.take_nil]
theorem cutD_to (xs : List PyData) (k : Nat) : cutD xs none (some (k : Int)) = xs.take k := by
  unfold cutD
  rw [HT.sIx_none, HT.sIx_nat, List.drop_zero, Nat.sub_zero, take_min]
theorem cutD_from (xs : List PyData) (k : Nat) : cutD xs (some (k : Int)) none = xs.drop k := by
  unfold cutD
  rw [HT.sIx_none, HT.sIx_nat]
  by_cases h : k ≤ xs.length
  · rw [Nat.min_eq_left h, List.take_of_length_le (by rw [List.length_drop]; exact Nat.le_refl _)]
  · rw [Nat.min_eq_right (by omega), List.drop_length, List.drop_of_length_le (by omega), List.take_nil]
/-- whatever the bounds, a slice of typed things is one -/
theorem cutD_map {α : Type} (t : α → PyData) (xs : List α) (lo hi : Option Int) : ∃ i k, cutD (xs.map t) lo hi = (((xs.drop i).take k).map t) := ⟨HT.sIx xs.length 0 lo, HT.sIx xs.length xs.length hi - HT.sIx xs.length 0 lo, by
  unfold cutD
  rw [List.length_map, List.map_take, List.map_drop]⟩
/-! ### equality of typed data -/
theorem eqvAll_map {α : Type} [DecidableEq α] (t : α → PyData) (ht : ∀ a b, PyData.eqv (t a) (t b) = decide (a = b)) : ∀ xs ys : List α, PyData.eqvAll (xs.map t) (ys.map t) = decide (xs = ys)
  | [], [] => by simp only [List.map_nil, PyData.eqvAll, decide_true]
  | [], _ :: _ => by simp [PyData.eqvAll]
  | _ :: _, [] => by simp [PyData.eqvAll]
  | x :: xs, y :: ys => by
    rw [List.map_cons, List.map_cons, PyData.eqvAll, ht, eqvAll_map t ht xs ys, ← Bool.decide_and]
    exact decide_eq_decide.mpr (by rw [List.cons.injEq])
theorem eqv_list {α : Type} [DecidableEq α] (t : α → PyData) (ht : ∀ a b, PyData.eqv (t a) (t b) = decide (a = b)) (xs ys : List α) : PyData.eqv (.list (xs.map t)) (.list (ys.map t)) = decide (xs = ys) := by
  simp only [PyData.eqv]
  exact eqvAll_map t ht xs ys
theorem eqv_str (a b : Str) : PyData.eqv (.str a) (.str b) = decide (a = b) := by
  simp only [PyData.eqv]
  by_cases h : a = b
  · subst h; simp
  · rw [decide_eq_false h]; exact beq_eq_false_iff_ne.mpr h
theorem perm_map_ex {α β : Type} (f : α → β) (g : β → α) (hg : ∀ a, g (f a) = a) {l : List β} {xs : List α} (h : l.Perm (xs.map f)) : ∃ l' : List α, l = l'.map f ∧ l'.Perm xs := by
  refine ⟨l.map g, ?_, ?_⟩
  · have : ∀ b ∈ l, f (g b) = b := fun b hb => by
      obtain ⟨a, _, rfl⟩ := List.mem_map.mp (h.mem_iff.mp hb)
      rw [hg]
    rw [List.map_map]
    conv => lhs; rw [← List.map_id l]
    exact List.map_congr_left fun b hb => (this b hb).symm
  · have h2 := h.map g
    rw [List.map_map] at h2
    have e : xs.map (g ∘ f) = xs := by
      conv => rhs; rw [← List.map_id xs]
      exact List.map_congr_left fun a _ => hg a
    rw [e] at h2
    exact h2

section
variable {F H H2 : Hp} {p : Addr}
theorem Fr.kept (s : Same F H) (n : F p = none) (kp : ∀ x o, H x = some o → x ≠ p → H2 x = some o) (st : ∀ x, H2 x = none → H x = none) : Fr (fun a => a = p) F H F H2 :=
  ⟨fun _ _ e => e, fun a o e => kp a o (s _ _ e) (fun z => by subst z; rw [n] at e; cases e), fun a o e n => kp a o e n, st, fun _ _ e _ => e⟩
end

/-! ### statements -/
section
variable {K : PySem.W.Frag} {σ : L2.St} {F H : Hp} {te : TE} {t : TT} {tu tw tz : TS} {d : PyData} {ds : List PyData} {v : V} {D : Ends} {i : Nat} {b : Bool}
/-- an assignment, its value by hand -/
theorem s_wp (h : te σ H fun v H1 => tz D (σ.set i (some v)) H1) : tSeq (tAsg te (gName i)) tz D σ H := h
theorem s_asg (h : EvF te σ F d) (s : Same F H) (k : ∀ v F1 H1, Fr M0 F H F1 H1 → Dq F1 v d → tz D (σ.set i (some v)) H1) : tSeq (tAsg te (gName i)) tz D σ H := h H s _ k
theorem s_asgO (h : EvO te σ F ds) (s : Same F H) (k : ∀ p vs F1 H1, Fr M0 F H F1 H1 → H p = none → F1 p = none → H1 p = some (.lst vs) → DqAll F1 vs ds → tz D (σ.set i (some (.ref p))) H1) : tSeq (tAsg te (gName i)) tz D σ H := h H s _ k
theorem s_if (h : EvT t σ F b) (s : Same F H) (k1 : b = true → ∀ F1 H1, Fr M0 F H F1 H1 → tu { D with nx := tz D } σ H1) (k2 : b = false → ∀ F1 H1, Fr M0 F H F1 H1 → tw { D with nx := tz D } σ H1) : tSeq (tIfS t tu tw) tz D σ H := h H s _ fun F1 H1 f1 => by
  cases b with
  | true => exact k1 rfl F1 H1 f1
  | false => exact k2 rfl F1 H1 f1
/-- an if without an else -/
theorem s_when (h : EvT t σ F b) (s : Same F H) (k1 : b = true → ∀ F1 H1, Fr M0 F H F1 H1 → tu { D with nx := tz D } σ H1) (k2 : b = false → ∀ F1 H1, Fr M0 F H F1 H1 → tz D σ H1) : tSeq (tIfS t tu tNext) tz D σ H := h H s _ fun F1 H1 f1 => by
  cases b with
  | true => exact k1 rfl F1 H1 f1
  | false => exact k2 rfl F1 H1 f1
theorem s_whenE (h : EvT t σ F b) (s : Same F H) (k1 : b = true → ∀ F1 H1, Fr M0 F H F1 H1 → tu D σ H1) (k2 : b = false → ∀ F1 H1, Fr M0 F H F1 H1 → D.nx σ H1) : tIfS t tu tNext D σ H := h H s _ fun F1 H1 f1 => by
  cases b with
  | true => exact k1 rfl F1 H1 f1
  | false => exact k2 rfl F1 H1 f1
theorem s_ret (h : EvF te σ F d) (s : Same F H) (k : ∀ v F1 H1, Fr M0 F H F1 H1 → Dq F1 v d → D.rt v H1) : tRet te D σ H := h H s _ k
theorem s_retO (h : EvO te σ F ds) (s : Same F H) (k : ∀ p vs F1 H1, Fr M0 F H F1 H1 → H p = none → F1 p = none → H1 p = some (.lst vs) → DqAll F1 vs ds → D.rt (.ref p) H1) : tRet te D σ H := h H s _ k
theorem s_drop (h : te σ H fun _ H1 => tz D σ H1) : tSeq (tDrop te) tz D σ H := h
end

/-! ### isinstance, is, loops -/
def tyName : PyData → String
  | .none => "NoneType"
  | .bool _ => "bool"
  | .int _ => "int"
  | .str _ => "str"
  | .list _ => "list"
  | .tuple _ => "tuple"
  | .dict _ => "dict"
theorem Dq.tyX {K : PySem.W.Frag} {H : Hp} {v : V} {d : PyData} (h : Dq H v d) : TyX K H v (.type (tyName d)) := by
  cases h with
  | non => exact .base .non
  | bl b => exact .base (.bl b)
  | int i => exact .base (.int i)
  | str x => exact .base (.str x)
  | lst e h => exact .base (.lst e)
  | tup e h => exact .base (.tup e)
  | dK e h => exact .base (.dK e)
  | dT e h => exact .base (.dT e)
section
variable {K : PySem.W.Frag} {σ : L2.St} {F H : Hp} {ta tb te tl : TE} {tA : TA} {t : TT} {tu tw tz tbd : TS} {d : PyData} {ds : List PyData} {v : V} {D : Ends} {i j : Nat} {b : Bool}
theorem ev_isi {T : String} (ha : EvF ta σ F d) (hk : kitB (tyName d) T = some b) : EvF (tCB (rIsi K) (tCons ta (tCons (tC (.ty T)) tNil))) σ F (.bool b) := fun H s Q q =>
  ha H s _ fun x F1 H1 f1 dx => ⟨x, .ty T, .type (tyName d), .type T, b, rfl, .ty T, (dx.mono f1.fh).tyX, kit_ty hk, q _ F1 H1 f1 (.bl b)⟩
theorem ev_isBl {a b : Bool} (ha : EvF ta σ F (.bool a)) (hb : EvF tb σ F (.bool b)) : EvF (tOp rIsB ta tb) σ F (.bool (decide (a = b))) :=
  ev_op ha (fun _ k => hb.mono k) fun x y F1 H1 Q s dx dy q => ⟨a, b, dx.blE, dy.blE, q _ F1 H1 (Fr.refl s) (.bl _)⟩
theorem ev_notBl {a b : Bool} (ha : EvF ta σ F (.bool a)) (hb : EvF tb σ F (.bool b)) : EvF (tOp rNotB ta tb) σ F (.bool (!decide (a = b))) :=
  ev_op ha (fun _ k => hb.mono k) fun x y F1 H1 Q s dx dy q => ⟨a, b, dx.blE, dy.blE, q _ F1 H1 (Fr.refl s) (.bl _)⟩
/-- for x in a list of data -/
theorem s_forL (h : EvF tl σ F (.list ds)) (s : Same F H)
    (k : ∀ a xs F1 H1, Fr M0 F H F1 H1 → F1 a = some (.lst xs) → DqAll F1 xs ds → ∃ Pv : Nat → L2.St → Hp → Prop, Pv 0 σ H1 ∧ (∀ i σ' H', Pv i σ' H' → Same F1 H') ∧
      (∀ i d x σ' H', ds[i]? = some d → Dq F1 x d → Pv i σ' H' → tbd { D with nx := Pv (i + 1), ct := Pv (i + 1), bk := tz D } (σ'.set j (some x)) H') ∧ (∀ σ' H', Pv ds.length σ' H' → tz D σ' H')) :
    tSeq (tFor (iList K tl) (gName j) tbd) tz D σ H := h H s _ fun x F1 H1 f1 dx => by
  obtain ⟨a, xs, rfl, ex, dv⟩ := dx.lstE
  obtain ⟨Pv, h0, hs, ht, he⟩ := k a xs F1 H1 f1 ex dv
  refine ⟨a, rfl, ⟨xs, SqL.of (f1.fh _ _ ex)⟩, for_list (xs := xs) (D := { D with nx := tz D }) Pv h0 (fun i σ' H' _ p => SqL.of (hs i σ' H' p _ _ ex)) (fun i x σ' H' hi p => ?_) (fun σ' H' p => ?_)⟩
  · obtain ⟨d, hd, dd⟩ := dv.getV hi
    exact ht i d x σ' H' hd dd p
  · rw [dv.length] at p
    exact he σ' H' p
/-- for k in range(n) -/
theorem s_forR {n : Int} (h : EvA tA σ F [.int n]) (hn : n < 2 ^ 62 ∧ -(2 ^ 62) ≤ n) (s : Same F H)
    (k : ∀ F1 H1, Fr M0 F H F1 H1 → ∃ Pv : Nat → L2.St → Hp → Prop, Pv 0 σ H1 ∧
      (∀ (i : Nat) σ' H', (i : Int) < n → Pv i σ' H' → tbd { D with nx := Pv (i + 1), ct := Pv (i + 1), bk := tz D } (σ'.set j (some (.int (i : Int)))) H') ∧ (∀ σ' H', Pv n.toNat σ' H' → tz D σ' H')) :
    tSeq (tFor (iRng1 tA) (gName j) tbd) tz D σ H := h H s _ fun vs F1 H1 f1 dv => by
  cases dv with
  | cons d1 t =>
    cases t
    cases d1.intE
    obtain ⟨Pv, h0, ht, he⟩ := k F1 H1 f1
    refine ⟨n, rfl, hn.2, hn.1, for_range (D := { D with nx := tz D }) Pv h0 (fun i σ' H' hi p => ?_) he⟩
    have e : (0 : Int) + (i : Int) = (i : Int) := Int.zero_add _
    show tbd _ (σ'.set j (some (.int ((0 : Int) + (i : Int))))) H'
    rw [e]
    exact ht i σ' H' (by omega) p
end

section
variable {M N : Addr → Prop} {F H H1 F2 H2 : Hp} {D : Addr} {o : HO}
/-- an object that was new, and was changed since -/
theorem Fr.unown (f : Fr M F (upd H1 D o) F2 H2) (n : H1 D = none) (h : ∀ a, M a → a = D ∨ N a) : Fr N F H1 F2 H2 := by
  refine ⟨f.ff, f.fh, fun a u e nn => ?_, fun a e => ?_, fun a u e1 e2 => ?_⟩
  · have ne := ne_of_none e n
    exact f.hh a u (by rw [upd_ne ne]; exact e) fun z => (h a z).elim ne nn
  · have := f.st a e
    by_cases z : a = D
    · rw [z]; exact n
    · rw [upd_ne z] at this; exact this
  · exact f.nw a u e1 (by rw [upd_ne (ne_of_none e2 n)]; exact e2)
end
end Ly

set_option Elab.async false
set_option linter.all false
set_option maxRecDepth 100000
set_option maxHeartbeats 400000
namespace K18
open PySem PySem.Spec PyProof.Rows L2 Ly
def topS (i : Nat) : Stmt := PySem.Challenge.pw_talkwatch_k18_views.main.body.getD i (.Pass ⟨0, 0, 0, 0⟩)
abbrev s_view : Stmt := topS 1
theorem sc_view : FnScope ["history", "hand", "exchange"] ["history", "hand"] (defScope s_view) := ⟨rfl, rfl, rfl, by decide +kernel, rfl, by decide +kernel, by decide +kernel⟩
abbrev s_look_alike : Stmt := topS 2
theorem sc_look_alike : FnScope ["one", "other", "hand"] ["one", "other", "hand"] (defScope s_look_alike) := ⟨rfl, rfl, rfl, by decide +kernel, rfl, by decide +kernel, by decide +kernel⟩
abbrev s_law_at : Stmt := topS 4
theorem sc_law_at : FnScope ["_law_script", "_law_k"] ["_law_script", "_law_k"] (defScope s_law_at) := ⟨rfl, rfl, rfl, by decide +kernel, rfl, by decide +kernel, by decide +kernel⟩
abbrev s_law_mixed : Stmt := topS 5
theorem sc_law_mixed : FnScope ["_law_cell", "_law_k", "_law_number"] ["_law_cell", "_law_k"] (defScope s_law_mixed) := ⟨rfl, rfl, rfl, by decide +kernel, rfl, by decide +kernel, by decide +kernel⟩
abbrev s_law_purse : Stmt := topS 6
theorem sc_law_purse : FnScope ["_law_script", "_law_at_here", "_law_cell"] ["_law_script", "_law_at_here"] (defScope s_law_purse) := ⟨rfl, rfl, rfl, by decide +kernel, rfl, by decide +kernel, by decide +kernel⟩
abbrev s_law_draw : Stmt := topS 7
theorem sc_law_draw : FnScope ["_law_purse_here", "_law_out_of", "_law_drawn", "_law_number", "_law_k"] ["_law_purse_here", "_law_out_of"] (defScope s_law_draw) := ⟨rfl, rfl, rfl, by decide +kernel, rfl, by decide +kernel, by decide +kernel⟩
abbrev s_law_order : Stmt := topS 8
theorem sc_law_order : FnScope ["_law_purse_here", "_law_some", "_law_rest", "_law_found"] ["_law_purse_here", "_law_some"] (defScope s_law_order) := ⟨rfl, rfl, rfl, by decide +kernel, rfl, by decide +kernel, by decide +kernel⟩
abbrev s_law_names : Stmt := topS 9
theorem sc_law_names : FnScope ["_law_purse_here", "_law_many", "_law_some"] ["_law_purse_here", "_law_many"] (defScope s_law_names) := ⟨rfl, rfl, rfl, by decide +kernel, rfl, by decide +kernel, by decide +kernel⟩
abbrev s_law_odd_lists : Stmt := topS 10
theorem sc_law_odd_lists : FnScope ["_law_purse_here", "_law_history", "_law_people", "_law_at_here", "_law_pair", "_law_strange", "_law_some", "_law_one", "_law_other", "_law_word"] ["_law_purse_here", "_law_history", "_law_people"] (defScope s_law_odd_lists) := ⟨rfl, rfl, rfl, by decide +kernel, rfl, by decide +kernel, by decide +kernel⟩
abbrev s_law_exchange : Stmt := topS 11
theorem sc_law_exchange : FnScope ["_law_purse_here", "_law_people", "_law_pair"] ["_law_purse_here", "_law_people"] (defScope s_law_exchange) := ⟨rfl, rfl, rfl, by decide +kernel, rfl, by decide +kernel, by decide +kernel⟩
abbrev s_law_right : Stmt := topS 12
theorem sc_law_right : FnScope ["_law_one", "_law_other", "_law_people", "_law_stayed", "_law_name", "_law_mine", "_law_its", "_law_turn", "_law_found", "_law_truths", "_law_exchange_here"] ["_law_one", "_law_other", "_law_people"] (defScope s_law_right) := ⟨rfl, rfl, rfl, by decide +kernel, rfl, by decide +kernel, by decide +kernel⟩
abbrev s_law : Stmt := topS 13
theorem sc_law : FnScope ["_law_script", "_law_cell", "_law_purse_here", "_law_people", "_law_history", "_law_some", "_law_other", "_law_k"] ["_law_script"] (defScope s_law) := ⟨rfl, rfl, rfl, by decide +kernel, rfl, by decide +kernel, by decide +kernel⟩
structure Top (K : PySem.W.Frag) (mg : Str → Option Value) where
  a_view : Addr
  fd_view : FuncData
  F_view : Fun K "view" "view" s_view a_view fd_view
  b_view : Binds K fd_view ["history", "hand"] []
  g_view : mg "view" = some (.ref a_view)
  a_look_alike : Addr
  fd_look_alike : FuncData
  F_look_alike : Fun K "look_alike" "look_alike" s_look_alike a_look_alike fd_look_alike
  b_look_alike : Binds K fd_look_alike ["one", "other", "hand"] []
  g_look_alike : mg "look_alike" = some (.ref a_look_alike)
  a_law_at : Addr
  fd_law_at : FuncData
  F_law_at : Fun K "_law_at" "_law_at" s_law_at a_law_at fd_law_at
  b_law_at : Binds K fd_law_at ["_law_script", "_law_k"] []
  g_law_at : mg "_law_at" = some (.ref a_law_at)
  a_law_mixed : Addr
  fd_law_mixed : FuncData
  F_law_mixed : Fun K "_law_mixed" "_law_mixed" s_law_mixed a_law_mixed fd_law_mixed
  b_law_mixed : Binds K fd_law_mixed ["_law_cell", "_law_k"] []
  g_law_mixed : mg "_law_mixed" = some (.ref a_law_mixed)
  a_law_purse : Addr
  fd_law_purse : FuncData
  F_law_purse : Fun K "_law_purse" "_law_purse" s_law_purse a_law_purse fd_law_purse
  b_law_purse : Binds K fd_law_purse ["_law_script", "_law_at_here"] []
  g_law_purse : mg "_law_purse" = some (.ref a_law_purse)
  a_law_draw : Addr
  fd_law_draw : FuncData
  F_law_draw : Fun K "_law_draw" "_law_draw" s_law_draw a_law_draw fd_law_draw
  b_law_draw : Binds K fd_law_draw ["_law_purse_here", "_law_out_of"] []
  g_law_draw : mg "_law_draw" = some (.ref a_law_draw)
  a_law_order : Addr
  fd_law_order : FuncData
  F_law_order : Fun K "_law_order" "_law_order" s_law_order a_law_order fd_law_order
  b_law_order : Binds K fd_law_order ["_law_purse_here", "_law_some"] []
  g_law_order : mg "_law_order" = some (.ref a_law_order)
  a_law_names : Addr
  fd_law_names : FuncData
  F_law_names : Fun K "_law_names" "_law_names" s_law_names a_law_names fd_law_names
  b_law_names : Binds K fd_law_names ["_law_purse_here", "_law_many"] []
  g_law_names : mg "_law_names" = some (.ref a_law_names)
  a_law_odd_lists : Addr
  fd_law_odd_lists : FuncData
  F_law_odd_lists : Fun K "_law_odd_lists" "_law_odd_lists" s_law_odd_lists a_law_odd_lists fd_law_odd_lists
  b_law_odd_lists : Binds K fd_law_odd_lists ["_law_purse_here", "_law_history", "_law_people"] []
  g_law_odd_lists : mg "_law_odd_lists" = some (.ref a_law_odd_lists)
  a_law_exchange : Addr
  fd_law_exchange : FuncData
  F_law_exchange : Fun K "_law_exchange" "_law_exchange" s_law_exchange a_law_exchange fd_law_exchange
  b_law_exchange : Binds K fd_law_exchange ["_law_purse_here", "_law_people"] []
  g_law_exchange : mg "_law_exchange" = some (.ref a_law_exchange)
  a_law_right : Addr
  fd_law_right : FuncData
  F_law_right : Fun K "_law_right" "_law_right" s_law_right a_law_right fd_law_right
  b_law_right : Binds K fd_law_right ["_law_one", "_law_other", "_law_people"] []
  g_law_right : mg "_law_right" = some (.ref a_law_right)
  a_law : Addr
  fd_law : FuncData
  F_law : Fun K "law" "law" s_law a_law fd_law
  b_law : Binds K fd_law ["_law_script"] []
  g_law : mg "law" = some (.ref a_law)
  z_bool : mg "bool" = none
  z_isinstance : mg "isinstance" = none
  z_len : mg "len" = none
  z_list : mg "list" = none
  z_max : mg "max" = none
  z_range : mg "range" = none
/-! ### mathematics -/
abbrev Exch := Str × Str × Str
def exD (e : Exch) : PyData := .tuple [.str e.1, .str e.2.1, .str e.2.2]
def hD (es : List Exch) : PyData := .list (es.map exD)
def hasH (h : Str) (e : Exch) : Bool := e.1 == h || e.2.1 == h
def viewM (es : List Exch) (h : Str) : List Exch := es.filter (hasH h)
theorem exD_plain (e : Exch) : (exD e).plain = true := rfl
theorem exDs_plain : ∀ es : List Exch, PyData.plainAll (es.map exD) = true
  | [] => rfl
  | e :: es => by rw [List.map_cons, PyData.plainAll, exD_plain e, exDs_plain es]; rfl
theorem hD_plain (es : List Exch) : (hD es).plain = true := exDs_plain es
theorem exD_depth (e : Exch) : (exD e).depth = 1 := rfl
theorem exDs_depth : ∀ es : List Exch, PyData.depthAll (es.map exD) ≤ 1
  | [] => Nat.zero_le _
  | e :: es => by rw [List.map_cons, PyData.depthAll, exD_depth e]; exact Nat.max_le.mpr ⟨Nat.le_refl _, exDs_depth es⟩
theorem hD_depth (es : List Exch) : (hD es).depth ≤ 2 := Nat.succ_le_succ (exDs_depth es)
def fView (h : Str) : PyData → Bool
  | .tuple ds => (ds.take 2).any fun z => PyData.eqv z (.str h)
  | _ => false
theorem fView_ex (h : Str) (e : Exch) : fView h (exD e) = hasH h e := by
  show ((e.1 == h) || ((e.2.1 == h) || false)) = _
  rw [Bool.or_false]; rfl
theorem gathered_map {α : Type} (t : α → PyData) (f : PyData → Bool) (f' : α → Bool) (hf : ∀ a, f (t a) = f' a) : ∀ xs : List α, gathered (xs.map t) f id = (xs.filter f').map t
  | [] => rfl
  | x :: xs => by
    have ih := gathered_map t f f' hf xs
    unfold gathered at ih ⊢
    rw [List.map_id] at ih ⊢
    rw [List.map_cons, List.filter_cons, List.filter_cons, hf x]
    cases f' x with
    | true => rw [if_pos rfl, if_pos rfl, List.map_cons, ih]
    | false => rw [if_neg (by decide), if_neg (by decide), ih]
/-! ### the purse: words and mathematics -/
def Purse (H : Hp) (q : Addr) (c : Int) : Prop := ∃ a b : Int, H q = some (.lst [.int a, .int b, .int c]) ∧ 0 ≤ a ∧ 0 ≤ b ∧ b < 2147483647 ∧ 0 ≤ c
def spAt (K : PySem.W.Frag) : Sp := fun vs H Q _ => ∃ (a : Addr) (ns : List Int) (k : Int), vs = [.ref a, .int k] ∧ SqL K H a (ns.map V.int) ∧ 0 ≤ k ∧ ∀ r, Q (.int r) H
def spMixed : Sp := fun vs H Q _ => ∃ a k : Int, vs = [.int a, .int k] ∧ 0 ≤ a ∧ a < 2147483647 ∧ 0 ≤ k ∧ k ≤ 1000000 ∧ ∀ r : Int, 0 ≤ r → r < 2147483587 → Q (.int r) H
def spPurse (K : PySem.W.Frag) : Sp := fun vs H Q _ => ∃ (a : Addr) (ns : List Int) (k : Int), vs = [.ref a, .int k] ∧ SqL K H a (ns.map V.int) ∧ 0 ≤ k ∧ k ≤ 63 ∧ ∀ q H2, H q = none → Same H H2 → Purse H2 q (1000 * k) → Q (.ref q) H2
def spDraw : Sp := fun vs H Q _ => ∃ p n c, vs = [.ref p, .int n] ∧ 1 ≤ n ∧ n < 1073741824 ∧ Purse H p c ∧ c + 2 ≤ 1000000 ∧
  ∀ (r : Int) H2 c', 0 ≤ r → r < n → (∀ x o, H x = some o → x ≠ p → H2 x = some o) → (∀ x, H2 x = none → H x = none) → Purse H2 p c' → c ≤ c' → c' ≤ c + 2 → Q (.int r) H2
def spOrder : Sp := fun vs H Q _ => ∃ F p v1 ds c, vs = [.ref p, v1] ∧ Same F H ∧ F p = none ∧ Purse H p c ∧ Dq F v1 (.list ds) ∧ PyData.plainAll ds = true ∧ (ds.length ≤ 1000 ∧ ∀ d ∈ ds, d.depth ≤ 58) ∧ c + 2 * ds.length ≤ 1000000 ∧
  ∀ f vf H2 c' ds', ds'.Perm ds → Fr (fun a => a = p) F H F H2 → H f = none → H2 f = some (.lst vf) → DqAll F vf ds' → Purse H2 p c' → c ≤ c' → c' ≤ c + 2 * ds.length → Q (.ref f) H2
theorem pow18 : CPowW 10 18 := ⟨by decide, by decide⟩
theorem pow60 : CPowW 10 60 := ⟨by decide, by decide⟩
theorem pow600 : CPowW (10 ^ (60 : Int).toNat) 10 := ⟨by decide, by decide +kernel⟩
theorem pow_pos600 : (0 : Int) < (10 ^ (60 : Int).toNat) ^ (10 : Int).toNat := by decide +kernel
theorem plainAll_iff : ∀ {ds : List PyData}, PyData.plainAll ds = true ↔ ∀ d ∈ ds, d.plain = true
  | [] => ⟨fun _ _ h => (nomatch h), fun _ => rfl⟩
  | d :: ds => by
    rw [PyData.plainAll, Bool.and_eq_true, plainAll_iff]
    exact ⟨fun h x hx => (List.mem_cons.mp hx).elim (fun z => z ▸ h.1) (fun z => h.2 x z), fun h => ⟨h d (List.mem_cons_self ..), fun x hx => h x (List.mem_cons_of_mem _ hx)⟩⟩
theorem depthAll_le {n : Nat} : ∀ {ds : List PyData}, (∀ d ∈ ds, d.depth ≤ n) → PyData.depthAll ds ≤ n
  | [], _ => Nat.zero_le _
  | d :: ds, h => by
    rw [PyData.depthAll]
    exact Nat.max_le.mpr ⟨h d (List.mem_cons_self ..), depthAll_le fun x hx => h x (List.mem_cons_of_mem _ hx)⟩
theorem seqIx {j n : Nat} (h : j < n) : seqIndex? (j : Int) n = some j := by
  unfold seqIndex?
  have : ¬ ((j : Int) < 0) := by omega
  simp only [this, if_false]
  have h2 : (decide (0 ≤ (j : Int)) && decide ((j : Int) < (n : Int))) = true := by
    rw [Bool.and_eq_true]
    exact ⟨decide_eq_true (by omega), decide_eq_true (by omega)⟩
  rw [if_pos h2]
  rfl
theorem perm_erase {α : Type} : ∀ {l : List α} {j : Nat} {d : α}, l[j]? = some d → ([d] ++ l.eraseIdx j).Perm l
  | [], _, _, h => by simp at h
  | a :: l, 0, d, h => by
    have : a = d := by simpa using h
    subst this
    exact List.Perm.refl _
  | a :: l, j + 1, d, h => by
    have ih := perm_erase (l := l) (j := j) (d := d) (by simpa using h)
    show (d :: a :: l.eraseIdx j).Perm (a :: l)
    exact (List.Perm.swap a d _).trans (List.Perm.cons a ih)
def OrderW (F H : Hp) (p x1 r f : Addr) (ds : List PyData) (c : Int) (m : Nat) (σ : L2.St) (H' : Hp) : Prop := ∃ vr vf dr df c', σ = [some (.ref p), some (.ref x1), some (.ref r), some (.ref f)] ∧ Fr (fun a => a = p) F H F H' ∧ H' r = some (.lst vr) ∧ H' f = some (.lst vf) ∧
  DqAll F vr dr ∧ DqAll F vf df ∧ (df ++ dr).Perm ds ∧ Purse H' p c' ∧ c ≤ c' ∧ c' + 2 * dr.length ≤ c + 2 * ds.length ∧ m = dr.length

theorem Purse.keep {H H2 : Hp} {p : Addr} {c : Int} (h : Purse H p c) (k : ∀ o, H p = some o → H2 p = some o) : Purse H2 p c := by
  obtain ⟨a, b, e, z⟩ := h
  exact ⟨a, b, k _ e, z⟩
theorem Purse.ne {H : Hp} {p x : Addr} {c : Int} (h : Purse H p c) (n : H x = none) : p ≠ x := by
  obtain ⟨a, b, e, z⟩ := h
  exact ne_of_none e n
theorem Purse.new {H : Hp} {p x : Addr} {c : Int} {o : HO} (h : Purse H p c) (n : H x = none) : Purse (upd H x o) p c := h.keep fun o e => by rw [upd_ne (ne_of_none e n)]; exact e

def WORDS : List Str := ["w", "v", "ab"]
def NAMES : List Str := ["a", "ab", "b", "ba", "c", "zoe", "abcdefgh", "m", "mm", "z"]
def spNames : Sp := fun vs H Q _ => ∃ (p : Addr) (m : Nat) (c : Int), vs = [.ref p, .int (m : Int)] ∧ Purse H p c ∧ c + 20 ≤ 1000000 ∧
  ∀ (L : List Str) g H2 c', L.Perm NAMES → (∀ x o, H x = some o → x ≠ p → H2 x = some o) → (∀ x, H2 x = none → H x = none) → H g = none → H2 g = some (.lst ((L.take m).map V.str)) → Purse H2 p c' → c ≤ c' → c' ≤ c + 20 → Q (.ref g) H2
def spExchange : Sp := fun vs H Q _ => ∃ F p v1 ss c, vs = [.ref p, v1] ∧ Same F H ∧ F p = none ∧ Purse H p c ∧ Dq F v1 (.list (ss.map PyData.str)) ∧ 2 ≤ ss.length ∧ ss.length ≤ 10 ∧ c + 22 ≤ 1000000 ∧
  ∀ (x y : Str) (rest : List Str) (word : Str) t F2 H2 c', (x :: y :: rest).Perm ss → word ∈ WORDS → Fr (fun a => a = p) F H F2 H2 → Dq F2 (.ref t) (.tuple [.str x, .str y, .str word]) → Purse H2 p c' → c ≤ c' → c' ≤ c + 22 → Q (.ref t) H2
theorem plainAll_strs : ∀ ss : List Str, PyData.plainAll (ss.map PyData.str) = true
  | [] => rfl
  | _ :: ss => plainAll_strs ss

section
variable {P : Program} {w : World} {K : PySem.W.Frag} {mg : Str → Option Value} {base : Heap}
/-! ### view, look_alike -/
def spView : Sp := fun vs H Q _ => ∃ F v1 es h, vs = [v1, .str h] ∧ Same F H ∧ Dq F v1 (hD es) ∧ es.length ≤ 1000 ∧
  ∀ p vs' F2 H2, Fr M0 F H F2 H2 → H p = none → F2 p = none → H2 p = some (.lst vs') → DqAll F2 vs' ((viewM es h).map exD) → Q (.ref p) H2
theorem ok_view (T : Top K mg) : FnOk P w K mg base CX0 1 T.a_view T.fd_view ["history", "hand"] spView := by
  refine T.F_view.ok sc_view (fun vs H Q E h => ?_) (fun cdv A outer s H vs Q E hr h => ?_)
  · obtain ⟨_, _, _, _, rfl, _⟩ := h
    rfl
  · obtain ⟨F, v1, es, h, rfl, sF, d1, hl, q⟩ := h
    refine ⟨_, (pss_one (ps_ret (pe_lc (own := [("exchange", 2)]) (g := gName 2) (tt := _) rfl sc_view.nd (pi_listK K rfl (pv 0)) (blkOk_by (own := [("exchange", 2)]) (N := ["history", "hand", "exchange"]) (sc := defScope s_view) (by decide +kernel)) (fun _ _ _ _ _ => (pg_name (i := 2) sc_view.nd rfl (Or.inl rfl))) (fun _ _ _ _ _ => pts_one (pt_cmpR (op_inQ hr.units) (pv 1) (pe_slice (sl_tupK K rfl) (pv 2) po_none (po_some pe_int)) (by rfl))) (fun _ _ _ _ _ => (pv 2))))), ?_⟩
    refine eo_lcL (ds := es.map exD) (fView h) id (ev_var rfl d1) (by rw [List.length_map]; omega) (fun _ => rfl) ?_ ?_ H sF _ ?_
    · intro d x F1 hm s1 dx
      obtain ⟨e, _, rfl⟩ := List.mem_map.mp hm
      refine (et_test (ev_in (neg := false) (ds := [.str e.1, .str e.2.1]) (ev_var rfl (.str h)) (ev_slT (ev_var rfl dx) ei_none (ei_some ev_int) (show ¬ (HT.sIx 3 0 none = 0 ∧ HT.sIx 3 3 (some 2) = 3) by decide)) (.inr rfl) rfl rfl (Nat.zero_le _))).is ?_
      rfl
    · intro d x F1 hm s1 dx _
      exact ev_var rfl dx
    · intro p vs' F2 H2 fr np nf hp dv
      rw [gathered_map exD _ _ (fView_ex h)] at dv
      exact q p vs' F2 H2 fr np nf hp dv
/-! ### the purse and what is drawn from it -/
theorem ok_law_at (T : Top K mg) : FnOk P w K mg base CX0 1 T.a_law_at T.fd_law_at ["_law_script", "_law_k"] (spAt K) := by
  refine T.F_law_at.ok sc_law_at (fun vs H Q E h => ?_) (fun cdv A outer s H vs Q E hr h => ?_)
  · obtain ⟨_, _, _, rfl, _⟩ := h
    rfl
  · obtain ⟨a, ns, k, rfl, hS, hk, q⟩ := h
    refine ⟨_, (pss_cons (ps_if (pt_cmpR op_lt (pv 1) (pe_callB (call_lenK K rfl) (by rfl) T.z_len (by decide +kernel) (pa_cons (pv 0) pa_nil)) (nomark _)) (pss_one (ps_ret (pe_ix (ix_seqK K rfl) (pv 0) (pv 1) (fun _ _ => rfl)))) pss_nil)
 (pss_one (ps_ret pe_int))), ?_⟩
    refine ⟨_, rfl, _, rfl, a, ns.map V.int, rfl, .inl hS, _, _, rfl, rfl, _, rfl, ite2 (fun h => ?_) (fun _ => q 0)⟩
    have hlt : k < ((ns.map V.int).length : Int) := of_decide_eq_true h
    obtain ⟨j, rfl⟩ := Int.eq_ofNat_of_zero_le hk
    have hj : j < ns.length := by rw [List.length_map] at hlt; omega
    have e : (ns.map V.int)[j]? = some (.int ns[j]) := by rw [List.getElem?_map, List.getElem?_eq_getElem hj]; rfl
    exact ⟨_, rfl, _, rfl, .inl ⟨a, _, _, _, rfl, rfl, hS, atI_nat e, q _⟩⟩
theorem ok_law_mixed (T : Top K mg) : FnOk P w K mg base CX0 1 T.a_law_mixed T.fd_law_mixed ["_law_cell", "_law_k"] spMixed := by
  refine T.F_law_mixed.ok sc_law_mixed (fun vs H Q E h => ?_) (fun cdv A outer s H vs Q E hr h => ?_)
  · obtain ⟨_, _, rfl, _⟩ := h
    rfl
  · obtain ⟨a, k, rfl, ha, ha2, hk, hk2, q⟩ := h
    refine ⟨_, (pss_cons (ps_set (i := 2) sc_law_mixed.nd rfl (Or.inl rfl) (pe_op op_mod (pe_op op_add (pe_op op_add (pe_op op_add (pe_op op_mul (pv 0) pe_int) (pe_op op_mul (pe_op op_mul pe_int (pv 1)) (pv 1))) (pv 1)) pe_int) pe_int))
 (pss_cons (ps_set (i := 2) sc_law_mixed.nd rfl (Or.inl rfl) (pe_op op_mod (pe_op op_add (pe_op op_mul (pv 2) (pv 2)) pe_int) pe_int))
 (pss_one (ps_ret (pe_op op_mod (pe_op op_mul (pv 2) pe_int) pe_int))))), ?_⟩
    refine ⟨_, rfl, _, _, rfl, rfl, .inl ⟨by omega, by omega⟩, ?_⟩
    refine ⟨_, rfl, _, _, rfl, rfl, .inl ⟨by omega, by omega⟩, _, rfl, _, _, rfl, rfl, .inr ⟨by omega, by omega⟩, _, _, rfl, rfl, _, rfl, _, _, rfl, rfl, _, _, rfl, rfl, _, _, rfl, rfl, (show (0 : Int) < 2147483647 by decide), ?_⟩
    generalize e1 : (a * 1103515245 + 7919 * k * k + k + 1) % 2147483647 = n1
    have b1 : 0 ≤ n1 := by rw [← e1]; exact Int.emod_nonneg _ (by decide)
    have b2 : n1 < 2147483647 := by rw [← e1]; exact Int.emod_lt_of_pos _ (by decide)
    refine ⟨_, rfl, _, rfl, _, _, rfl, rfl, .inl ⟨by omega, by omega⟩, _, _, rfl, rfl, _, _, rfl, rfl, (show (0 : Int) < 2147483629 by decide), ?_⟩
    generalize e2 : (n1 * n1 + 69621) % 2147483629 = n2
    have c1 : 0 ≤ n2 := by rw [← e2]; exact Int.emod_nonneg _ (by decide)
    have c2 : n2 < 2147483629 := by rw [← e2]; exact Int.emod_lt_of_pos _ (by decide)
    refine ⟨_, rfl, _, _, rfl, rfl, .inl ⟨by omega, by omega⟩, _, _, rfl, rfl, (show (0 : Int) < 2147483587 by decide), ?_⟩
    exact q _ (Int.emod_nonneg _ (by decide)) (Int.emod_lt_of_pos _ (by decide))
theorem ok_law_purse (T : Top K mg) : FnOk P w K mg base CX0 2 T.a_law_purse T.fd_law_purse ["_law_script", "_law_at_here"] (spPurse K) := by
  refine T.F_law_purse.ok sc_law_purse (fun vs H Q E h => ?_) (fun cdv A outer s H vs Q E hr h => ?_)
  · obtain ⟨_, _, _, rfl, _⟩ := h
    rfl
  · obtain ⟨a, ns, k, rfl, hS, hk, hk2, q⟩ := h
    refine ⟨_, (pss_cons (ps_set (i := 2) sc_law_purse.nd rfl (Or.inl rfl) (pe_call (ok_law_at T) (hr.mono (by decide)) (by rfl) T.g_law_at T.F_law_at.kp T.b_law_at .nil pass0 (pa_cons (pv 0) (pa_cons (pv 1) pa_nil))))
 (pss_one (ps_ret (pe_lst (pa_cons (pe_op op_mod (pe_callB (call_max2 rfl) (by rfl) T.z_max (by decide +kernel) (pa_cons (pe_op op_sub (pv 2) (pe_op op_powW pe_int pe_int)) (pa_cons pe_int pa_nil))) (pe_op op_powW (pe_op op_powW pe_int pe_int) pe_int)) (pa_cons (pe_op op_mod (pv 2) pe_int) (pa_cons (pe_op op_mul pe_int (pv 1)) pa_nil))))))), ?_⟩
    refine ⟨_, rfl, _, rfl, a, ns, k, rfl, hS, hk, fun c => ?_⟩
    refine ⟨_, rfl, _, _, rfl, rfl, pow18, _, _, rfl, rfl, _, _, rfl, _, _, rfl, rfl, pow60, _, _, rfl, rfl, pow600, _, _, rfl, rfl, pow_pos600, ?_⟩
    refine ⟨_, rfl, _, _, rfl, rfl, (show (0 : Int) < 2147483647 by decide), _, rfl, _, _, rfl, rfl, .inl ⟨by decide, by decide⟩, (by show 3 ≤ sizeLine; decide), fun p np => ?_⟩
    exact q p _ np (fun b o e => by rw [upd_ne (ne_of_none e np)]; exact e) ⟨_, _, upd_same, Int.emod_nonneg _ (Int.ne_of_gt pow_pos600), Int.emod_nonneg _ (by decide), Int.emod_lt_of_pos _ (by decide), by omega⟩
theorem ok_law_draw (T : Top K mg) : FnOk P w K mg base CX0 2 T.a_law_draw T.fd_law_draw ["_law_purse_here", "_law_out_of"] spDraw := by
  refine T.F_law_draw.ok sc_law_draw (fun vs H Q E h => ?_) (fun cdv A outer s H vs Q E hr h => ?_)
  · obtain ⟨_, _, _, rfl, _⟩ := h
    rfl
  · obtain ⟨p, n, c, rfl, hn, hn2, hp, hc, q⟩ := h
    obtain ⟨a, b, eH, a0, b0, b1, c0⟩ := id hp
    refine ⟨_, (pss_cons (ps_if (pt_cmpR op_gt (pe_ix (ix_seqK K rfl) (pv 0) pe_int (fun _ _ => rfl)) pe_int (nomark _)) (pss_cons (ps_set (i := 2) sc_law_draw.nd rfl (Or.inl rfl) (pe_op op_mod (pe_ix (ix_seqK K rfl) (pv 0) pe_int (fun _ _ => rfl)) (pv 1)))
 (pss_cons (ps_asg (pe_op op_fdiv (pe_ix (ix_seqK K rfl) (pv 0) pe_int (fun _ _ => rfl)) (pv 1)) (pg_sub (pv 0) pe_int set_list))
 (pss_one (ps_ret (pv 2))))) pss_nil)
 (pss_cons (ps_set (i := 3) sc_law_draw.nd rfl (Or.inl rfl) pe_int)
 (pss_cons (ps_for PassesOwn.never rfl (pi_range1 rfl T.z_range (pa_cons (pe_op op_add pe_int (pe_op op_fdiv (pe_bits (pv 1)) pe_int)) pa_nil)) (pg_name (i := 4) sc_law_draw.nd rfl (Or.inl rfl)) (pss_cons (ps_asg (pe_op op_add (pe_ix (ix_seqK K rfl) (pv 0) pe_int (fun _ _ => rfl)) pe_int) (pg_sub (pv 0) pe_int set_list))
 (pss_one (ps_set (i := 3) sc_law_draw.nd rfl (Or.inl rfl) (pe_op op_add (pe_op op_mul (pv 3) pe_int) (pe_call (ok_law_mixed T) (hr.mono (by decide)) (by rfl) T.g_law_mixed T.F_law_mixed.kp T.b_law_mixed .nil pass0 (pa_cons (pe_ix (ix_seqK K rfl) (pv 0) pe_int (fun _ _ => rfl)) (pa_cons (pe_ix (ix_seqK K rfl) (pv 0) pe_int (fun _ _ => rfl)) pa_nil))))))))
 (pss_one (ps_ret (pe_op op_mod (pv 3) (pv 1))))))), ?_⟩
    refine ⟨_, rfl, .inl ⟨p, _, 0, .int a, rfl, rfl, SqL.of eH, rfl, _, _, rfl, rfl, _, rfl, ite2 (fun h => ?_) (fun h => ?_)⟩⟩
    · refine ⟨_, rfl, .inl ⟨p, _, 0, .int a, rfl, rfl, SqL.of eH, rfl, _, rfl, _, _, rfl, rfl, (by show 0 < n; omega), ?_⟩⟩
      refine ⟨_, rfl, .inl ⟨p, _, 0, .int a, rfl, rfl, SqL.of eH, rfl, _, rfl, _, _, rfl, rfl, ⟨by omega, hn2⟩, ?_⟩⟩
      refine ⟨_, rfl, p, _, 0, 0, rfl, rfl, eH, rfl, _, rfl, ?_⟩
      refine q _ _ c (Int.emod_nonneg _ (by omega)) (Int.emod_lt_of_pos _ (by omega)) (fun x o e ne => by rw [upd_ne ne]; exact e) (fun x e => ?_) ⟨a / n, b, upd_same, Int.ediv_nonneg a0 (by omega), b0, b1, c0⟩ (Int.le_refl _) (by omega)
      by_cases z : x = p
      · subst z; rw [upd_same] at e; cases e
      · rw [upd_ne z] at e; exact e
    · refine ⟨_, rfl, n, rfl, _, _, rfl, rfl, ⟨by decide, by decide⟩, _, _, rfl, rfl, _, rfl, ?_⟩
      have hb : (Builtin.Int.intBits n : Int) ≤ 30 := by
        have := PyProof.Rows.intBits_le (a := n) (k := 30) (by omega)
        omega
      have hb0 : (0 : Int) ≤ (Builtin.Int.intBits n : Int) := Int.natCast_nonneg _
      refine ⟨by omega, by omega, for_range (fun i σ H' => ∃ c' m y, σ = [some (.ref p), some (.int n), none, some (.int m), y] ∧ Purse H' p c' ∧ c ≤ c' ∧ c' ≤ c + i ∧ (∀ x o, H x = some o → x ≠ p → H' x = some o) ∧ (∀ x, H' x = none → H x = none)) ?_ ?_ ?_⟩
      · exact ⟨c, 0, none, rfl, hp, Int.le_refl _, by omega, fun x o e _ => e, fun x e => e⟩
      · rintro i σ H' hi ⟨c', m, y, rfl, ⟨a', b', e', a0', b0', b1', c0'⟩, hc0, hc1, kp, fr⟩
        have hi2 : i < 2 := by omega
        refine ⟨_, rfl, .inl ⟨p, _, 2, .int c', rfl, rfl, SqL.of e', rfl, _, _, rfl, rfl, _, rfl, p, _, 2, 2, rfl, rfl, e', rfl, ?_⟩⟩
        have e2 : upd H' p (.lst ([V.int a', .int b', .int c'].set 2 (.int (c' + 1)))) p = some (.lst [.int a', .int b', .int (c' + 1)]) := upd_same
        refine ⟨_, rfl, _, _, rfl, rfl, .inr ⟨by decide, by decide⟩, _, rfl, .inl ⟨p, _, 1, .int b', rfl, rfl, SqL.of e2, rfl, _, rfl, .inl ⟨p, _, 2, .int (c' + 1), rfl, rfl, SqL.of e2, rfl, ?_⟩⟩⟩
        refine ⟨b', c' + 1, rfl, b0', b1', by omega, by omega, fun r r0 r1 => ?_⟩
        refine ⟨_, _, rfl, rfl, c' + 1, _, _, rfl, ⟨a', b', e2, a0', b0', b1', by omega⟩, by omega, by omega, fun x o e ne => by rw [upd_ne ne]; exact kp x o e ne, fun x e => ?_⟩
        by_cases z : x = p
        · subst z; rw [upd_same] at e; cases e
        · rw [upd_ne z] at e; exact fr x e
      · rintro σ H' ⟨c', m, y, rfl, hp', hc0, hc1, kp, fr⟩
        refine ⟨_, rfl, _, rfl, _, _, rfl, rfl, (by show 0 < n; omega), ?_⟩
        exact q _ H' c' (Int.emod_nonneg _ (by omega)) (Int.emod_lt_of_pos _ (by omega)) kp fr hp' hc0 (by omega)
theorem ok_law_order (T : Top K mg) : FnOk P w K mg base CX0 3 T.a_law_order T.fd_law_order ["_law_purse_here", "_law_some"] spOrder := by
  refine T.F_law_order.ok sc_law_order (fun vs H Q E h => ?_) (fun cdv A outer s H vs Q E hr h => ?_)
  · obtain ⟨_, _, _, _, _, rfl, _⟩ := h
    rfl
  · obtain ⟨F, p, v1, ds, c, rfl, sF, nF, hp, d1, pl, hl, hc, q⟩ := h
    obtain ⟨x1, xs, rfl, ex, dx⟩ := d1.lstE
    refine ⟨_, (pss_cons (ps_set (i := 2) sc_law_order.nd rfl (Or.inl rfl) (pe_callTy (call_listK K rfl) (by rfl) T.z_list (by decide +kernel) (pa_cons (pv 1) pa_nil)))
 (pss_cons (ps_set (i := 3) sc_law_order.nd rfl (Or.inl rfl) (pe_lst pa_nil))
 (pss_cons (ps_while PassesOwn.never (pt_cmpR (op_neQ hr.units) (pv 2) (pe_lst pa_nil) (nomark _)) (pss_one (ps_expr (bmK K rfl (pe_bm PySem.F.plainAttrs_list PySem.F.slot_list_append PySem.F.type_list_append mt_append (pv 3) (pa_cons (bmK K rfl (pe_bm PySem.F.plainAttrs_list PySem.F.slot_list_pop PySem.F.type_list_pop mt_popAt (pv 2) (pa_cons (pe_call (ok_law_draw T) (hr.mono (by decide)) (by rfl) T.g_law_draw T.F_law_draw.kp T.b_law_draw .nil pass0 (pa_cons (pv 0) (pa_cons (pe_callB (call_lenK K rfl) (by rfl) T.z_len (by decide +kernel) (pa_cons (pv 2) pa_nil)) pa_nil))) pa_nil))) pa_nil))))))
 (pss_one (ps_ret (pv 3)))))), ?_⟩
    have eH : ∃ o, H p = some o := ⟨_, hp.choose_spec.choose_spec.1⟩
    obtain ⟨op, eop⟩ := eH
    refine ⟨_, rfl, x1, xs, rfl, .inl (SqL.of (sF _ _ ex)), fun r nr => ⟨Nat.zero_le _, fun f nf => ?_⟩⟩
    have npr : p ≠ r := ne_of_none eop nr
    have nf1 : H f = none := by
      by_cases z : f = r
      · subst z; rw [upd_same] at nf; cases nf
      · rw [upd_ne z] at nf; exact nf
    have nfr : f ≠ r := fun z => by subst z; rw [upd_same] at nf; cases nf
    have npf : p ≠ f := ne_of_none eop nf1
    have f0 : Fr (fun a => a = p) F H F (upd (upd H r (.lst xs)) f (.lst [])) := (Fr.own sF nr).trans (Fr.own (Fr.own (M := M0) sF nr).fh nf)
    have hp0 : Purse (upd (upd H r (.lst xs)) f (.lst [])) p c := by
      obtain ⟨a, b, e, r⟩ := hp
      exact ⟨a, b, by rw [upd_ne npf, upd_ne npr]; exact e, r⟩
    refine ⟨OrderW F H p x1 r f ds c, ⟨ds.length, ?_⟩, ?_⟩
    · exact ⟨xs, [], ds, [], c, rfl, f0, by rw [upd_ne nfr.symm, upd_same], upd_same, dx, .nil, List.Perm.refl _, hp0, Int.le_refl _, Int.le_refl _, rfl⟩
    · rintro m σ H' ⟨vr, vf, dr, df, c', rfl, fr, er, ef, dvr, dvf, pm, hp', hc0, hc1, rfl⟩
      have hlen : df.length + dr.length = ds.length := by rw [← List.length_append]; exact pm.length_eq
      have plr : PyData.plainAll dr = true := plainAll_iff.mpr fun d hd => plainAll_iff.mp pl d (pm.mem_iff.mp (List.mem_append_right _ hd))
      have nrF : F r = none := sF.free nr
      have nfF : F f = none := sF.free nf1
      have dpr : (PyData.list dr).depth ≤ 60 := by
        have := depthAll_le (n := 58) fun d hd => hl.2 d (pm.mem_iff.mp (List.mem_append_right _ hd))
        simp only [PyData.depth]
        omega
      refine ⟨_, rfl, Nat.zero_le _, fun t nt => ?_⟩
      have ntr : r ≠ t := ne_of_none er nt
      have ntf : f ≠ t := ne_of_none ef nt
      have fr1 : Fr (fun a => a = p) F H F (upd H' t (.lst [])) := fr.trans (Fr.own fr.fh nt)
      have er1 : (upd H' t (.lst [])) r = some (.lst vr) := by rw [upd_ne ntr]; exact er
      have ef1 : (upd H' t (.lst [])) f = some (.lst vf) := by rw [upd_ne ntf]; exact ef
      have hp1 : Purse (upd H' t (.lst [])) p c' := by
        obtain ⟨a, b, e, z⟩ := hp'
        exact ⟨a, b, by rw [upd_ne (ne_of_none e nt)]; exact e, z⟩
      refine ⟨.list dr, .list [], .lst er1 (dvr.mono fr1.fh), .lst upd_same .nil, plr, rfl, dpr, _, rfl, ?_⟩
      cases dr with
      | nil =>
        refine iteF ?_
        refine ⟨_, rfl, ?_⟩
        rw [List.append_nil] at pm
        exact q f vf _ c' df pm fr1 nf1 ef1 dvf hp1 hc0 (by simp only [List.length_nil] at hc1; omega)
      | cons d0 dr0 =>
        refine iteT ?_
        refine ⟨fun σ' H' => ∃ m', m' < _ ∧ OrderW F H p x1 r f ds c m' σ' H', fun _ _ z => z, ?_⟩
        · refine ⟨_, rfl, .inl ⟨rfl, _, SqL.of ef1⟩, _, rfl, .inl ⟨rfl, _, SqL.of er1⟩, _, rfl, _, rfl, r, vr, rfl, .inl (SqL.of er1), ?_⟩
          have hvl : vr.length = dr0.length + 1 := dvr.length
          have hl3 : dr0.length + 1 ≤ 1000 := by
            have := hl.1
            simp only [List.length_cons] at hlen
            omega
          refine ⟨p, _, c', rfl, by omega, by omega, hp1, by simp only [List.length_cons] at hc1; omega, fun k H2 c2 k0 k1 kp st hp2 hc2 hc3 => ?_⟩
          obtain ⟨j, rfl⟩ := Int.eq_ofNat_of_zero_le k0
          have hj : j < vr.length := by omega
          have npr' : r ≠ p := npr.symm
          have npf' : f ≠ p := npf.symm
          have er2 : H2 r = some (.lst vr) := kp r _ er1 npr'
          have ef2 : H2 f = some (.lst vf) := kp f _ ef1 npf'
          have hjd : j < (d0 :: dr0).length := by rw [List.length_cons]; omega
          obtain ⟨d, hd⟩ : ∃ d, (d0 :: dr0)[j]? = some d := ⟨_, List.getElem?_eq_getElem hjd⟩
          obtain ⟨v, hv, dv⟩ := dvr.get hd
          have fr2 : Fr (fun a => a = p) F H F H2 := fr1.trans ⟨fun _ _ e => e, fun a o e => kp a o (fr1.fh _ _ e) (fun z => by subst z; rw [nF] at e; cases e), fun a o e n => kp a o e n, st, fun _ _ e _ => e⟩
          refine ⟨r, vr, j, j, v, rfl, rfl, er2, by omega, by omega, seqIx hj, hv, ?_⟩
          have ef3 : (upd H2 r (.lst (vr.eraseIdx j))) f = some (.lst vf) := by rw [upd_ne nfr]; exact ef2
          have hvf : vf.length ≤ 1000 := by
            have := dvf.length
            have := hl.1
            omega
          refine ⟨f, vf, v, rfl, rfl, ef3, Nat.lt_of_le_of_lt hvf (by decide), ?_⟩
          have pe : ((d0 :: dr0).eraseIdx j).length + 1 = (d0 :: dr0).length := by
            rw [List.length_eraseIdx]
            rw [if_pos hjd]
            omega
          refine ⟨((d0 :: dr0).eraseIdx j).length, by omega, vr.eraseIdx j, vf ++ [v], (d0 :: dr0).eraseIdx j, df ++ [d], c2, rfl, ?_, ?_, upd_same, dvr.eraseIdx j, dvf.append (.cons dv .nil), ?_, ?_, by omega, by omega, rfl⟩
          · have s3 : Same F (upd H2 r (.lst (vr.eraseIdx j))) := (Fr.put (M := fun a => a = r) fr2.fh nrF rfl).fh
            have s4 : Same F (upd (upd H2 r (.lst (vr.eraseIdx j))) f (.lst (vf ++ [v]))) := (Fr.put (M := fun a => a = f) s3 nfF rfl).fh
            refine ⟨fun _ _ e => e, s4, fun a o e n => ?_, fun a e => ?_, fun _ _ e _ => e⟩
            · rw [upd_ne (ne_of_none e nf1), upd_ne (ne_of_none e nr)]
              exact fr2.hh a o e n
            · by_cases z : a = f
              · rw [z]; exact nf1
              · rw [upd_ne z] at e
                by_cases z2 : a = r
                · rw [z2]; exact nr
                · rw [upd_ne z2] at e; exact fr2.st a e
          · rw [upd_ne nfr.symm, upd_same]
          · refine List.Perm.trans ?_ pm
            rw [List.append_assoc]
            refine List.Perm.append_left df ?_
            exact perm_erase hd
          · obtain ⟨a, b, e, z⟩ := hp2
            exact ⟨a, b, by rw [upd_ne npf, upd_ne npr]; exact e, z⟩

theorem ok_law_names (T : Top K mg) : FnOk P w K mg base CX0 4 T.a_law_names T.fd_law_names ["_law_purse_here", "_law_many"] spNames := by
  refine T.F_law_names.ok sc_law_names (fun vs H Q E h => ?_) (fun cdv A outer s H vs Q E hr h => ?_)
  · obtain ⟨_, _, _, rfl, _⟩ := h
    rfl
  · obtain ⟨p, m, c, rfl, hp, hc, q⟩ := h
    obtain ⟨a, b, eH, a0, b0, b1, c0⟩ := id hp
    refine ⟨_, (pss_cons (ps_set (i := 2) sc_law_names.nd rfl (Or.inl rfl) (pe_lst (pa_cons pe_str (pa_cons pe_str (pa_cons pe_str (pa_cons pe_str (pa_cons pe_str (pa_cons pe_str (pa_cons pe_str (pa_cons pe_str (pa_cons pe_str (pa_cons pe_str pa_nil))))))))))))
 (pss_one (ps_ret (pe_slice (sl_listK K rfl) (pe_call (ok_law_order T) (hr.mono (by decide)) (by rfl) T.g_law_order T.F_law_order.kp T.b_law_order .nil pass0 (pa_cons (pv 0) (pa_cons (pv 2) pa_nil))) po_none (po_some (pv 1)))))), ?_⟩
    refine ⟨(by show 10 ≤ sizeLine; decide), fun l nl => ?_⟩
    have npl : p ≠ l := ne_of_none eH nl
    refine ⟨_, rfl, _, rfl, upd (fun _ => none) l (.lst (NAMES.map V.str)), p, .ref l, NAMES.map PyData.str, c, rfl, fun x o e => ?_, ?_, ⟨a, b, by rw [upd_ne npl]; exact eH, a0, b0, b1, c0⟩, .lst upd_same (DqAll.strs _), rfl, ⟨by decide, fun d hd => ?_⟩, ?_, fun f vf H2 c' ds' pm fr nf ef dvf hp' hc0 hc1 => ?_⟩
    · by_cases z : x = l
      · subst z; rw [upd_same] at e ⊢; exact e
      · rw [upd_ne z] at e; cases e
    · rw [upd_ne npl]
    · obtain ⟨z, _, rfl⟩ := List.mem_map.mp hd
      exact Nat.zero_le _
    · show c + 2 * 10 ≤ 1000000
      omega
    · obtain ⟨L, rfl, pmL⟩ := perm_map_ex PyData.str (fun | .str s => s | _ => "") (fun _ => rfl) pm
      cases dvf.strsE
      refine ⟨_, rfl, _, rfl, f, _, rfl, SqL.of ef, fun g ng => ?_⟩
      rw [cutV_to, ← List.map_take]
      have k1 : ∀ x o, H x = some o → x ≠ p → (upd H2 g (.lst ((L.take m).map V.str))) x = some o := fun x o e ne => by
        have e1 : (upd H l (.lst (NAMES.map V.str))) x = some o := by rw [upd_ne (ne_of_none e nl)]; exact e
        have e2 := fr.hh x o e1 ne
        rw [upd_ne (ne_of_none e2 ng)]; exact e2
      have k2 : ∀ x, (upd H2 g (.lst ((L.take m).map V.str))) x = none → H x = none := fun x e => by
        by_cases z : x = g
        · subst z; rw [upd_same] at e; cases e
        · rw [upd_ne z] at e
          have := fr.st x e
          by_cases z2 : x = l
          · subst z2; exact nl
          · rw [upd_ne z2] at this; exact this
      have ngH : H g = none := by
        have := fr.st g ng
        by_cases z2 : g = l
        · subst z2; exact nl
        · rw [upd_ne z2] at this; exact this
      obtain ⟨a', b', e', z⟩ := hp'
      exact q L g _ c' pmL k1 k2 ngH upd_same ⟨a', b', by rw [upd_ne (ne_of_none e' ng)]; exact e', z⟩ hc0 hc1
theorem ok_law_exchange (T : Top K mg) : FnOk P w K mg base CX0 4 T.a_law_exchange T.fd_law_exchange ["_law_purse_here", "_law_people"] spExchange := by
  refine T.F_law_exchange.ok sc_law_exchange (fun vs H Q E h => ?_) (fun cdv A outer s H vs Q E hr h => ?_)
  · obtain ⟨_, _, _, _, _, rfl, _⟩ := h
    rfl
  · obtain ⟨F, p, v1, ss, c, rfl, sF, nF, hp, d1, h2, h10, hc, q⟩ := h
    refine ⟨_, (pss_cons (ps_set (i := 2) sc_law_exchange.nd rfl (Or.inl rfl) (pe_slice (sl_listK K rfl) (pe_call (ok_law_order T) (hr.mono (by decide)) (by rfl) T.g_law_order T.F_law_order.kp T.b_law_order .nil pass0 (pa_cons (pv 0) (pa_cons (pv 1) pa_nil))) po_none (po_some pe_int)))
 (pss_one (ps_ret (pe_tup (pa_cons (pe_ix (ix_seqK K rfl) (pv 2) pe_int (fun _ _ => rfl)) (pa_cons (pe_ix (ix_seqK K rfl) (pv 2) pe_int (fun _ _ => rfl)) (pa_cons (pe_ix (ix_seqK K rfl) (pe_lst (pa_cons pe_str (pa_cons pe_str (pa_cons pe_str pa_nil)))) (pe_call (ok_law_draw T) (hr.mono (by decide)) (by rfl) T.g_law_draw T.F_law_draw.kp T.b_law_draw .nil pass0 (pa_cons (pv 0) (pa_cons pe_int pa_nil))) (fun _ _ => rfl)) pa_nil))))))), ?_⟩
    refine ⟨_, rfl, _, rfl, F, p, v1, ss.map PyData.str, c, rfl, sF, nF, hp, d1, plainAll_strs ss, ⟨by rw [List.length_map]; omega, fun d hd => ?_⟩, by rw [List.length_map]; omega, fun f vf H2 c' ds' pm fr nf ef dvf hp' hc0 hc1 => ?_⟩
    · obtain ⟨z, _, rfl⟩ := List.mem_map.mp hd
      exact Nat.zero_le _
    · rw [List.length_map] at hc1
      obtain ⟨L, rfl, pmL⟩ := perm_map_ex PyData.str (fun | .str s => s | _ => "") (fun _ => rfl) pm
      cases dvf.strsE
      have hL : L.length = ss.length := pmL.length_eq
      obtain ⟨x, y, rest, rfl⟩ : ∃ x y rest, L = x :: y :: rest := by
        match L, hL with
        | [], hL => simp only [List.length_nil] at hL; omega
        | [_], hL => simp only [List.length_cons, List.length_nil] at hL; omega
        | x :: y :: rest, _ => exact ⟨x, y, rest, rfl⟩
      refine ⟨2, rfl, f, _, rfl, SqL.of ef, fun g ng => ?_⟩
      have eg : (upd H2 g (.lst (cutV ((x :: y :: rest).map V.str) none (some 2)))) g = some (.lst [.str x, .str y]) := by
        rw [upd_same]
        exact congrArg (fun z => some (HO.lst z)) (cutV_to _ 2)
      refine ⟨_, rfl, .inl ⟨g, _, 0, .str x, rfl, rfl, SqL.of eg, rfl, _, rfl, .inl ⟨g, _, 1, .str y, rfl, rfl, SqL.of eg, rfl, (by show 3 ≤ sizeLine; decide), fun l nl => ?_⟩⟩⟩
      have ngl : g ≠ l := ne_of_none eg nl
      have nlH2 : H2 l = none := by rw [upd_ne ngl.symm] at nl; exact nl
      have hp1 : Purse (upd (upd H2 g (.lst (cutV ((x :: y :: rest).map V.str) none (some 2)))) l (.lst (WORDS.map V.str))) p c' := by
        obtain ⟨a', b', e', z⟩ := hp'
        exact ⟨a', b', by rw [upd_ne (ne_of_none e' nlH2), upd_ne (ne_of_none e' ng)]; exact e', z⟩
      refine ⟨_, rfl, p, 3, c', rfl, by decide, by decide, hp1, by omega, fun k H3 c2 k0 k1 kp st hp2 hc2 hc3 => ?_⟩
      have npl : p ≠ l := by obtain ⟨a', b', e', z⟩ := hp'; exact ne_of_none e' nlH2
      have el : H3 l = some (.lst (WORDS.map V.str)) := kp l _ upd_same npl.symm
      obtain ⟨j, rfl⟩ := Int.eq_ofNat_of_zero_le k0
      have hj : j < 3 := by omega
      refine .inl ⟨l, _, _, .str (WORDS.getD j ""), rfl, rfl, SqL.of el, atI_nat (by
        match j, hj with
        | 0, _ => rfl
        | 1, _ => rfl
        | 2, _ => rfl), (by show 3 ≤ sizeLine; decide), fun t nt => ?_⟩
      have fa : Fr (fun a => a = p) F H F H3 := by
        have f1 := (fr.trans (Fr.own fr.fh ng)).trans (Fr.own (o := .lst (WORDS.map V.str)) (Fr.own (M := M0) fr.fh ng).fh nl)
        exact f1.trans ⟨fun _ _ e => e, fun a o e => kp a o (f1.fh _ _ e) (fun z => by subst z; rw [nF] at e; cases e), fun a o e n => kp a o e n, st, fun _ _ e _ => e⟩
      have hp3 : Purse (upd H3 t (.tup [.str x, .str y, .str (WORDS.getD j "")])) p c2 := by
        obtain ⟨a', b', e', z⟩ := hp2
        exact ⟨a', b', by rw [upd_ne (ne_of_none e' nt)]; exact e', z⟩
      exact q x y rest (WORDS.getD j "") t _ _ c2 pmL (by
        match j, hj with
        | 0, _ => exact List.mem_cons_self ..
        | 1, _ => exact List.mem_cons_of_mem _ (List.mem_cons_self ..)
        | 2, _ => exact List.mem_cons_of_mem _ (List.mem_cons_of_mem _ (List.mem_cons_self ..))) (fa.trans (Fr.new fa.fh nt)) (.tup upd_same (DqAll.strs [x, y, WORDS.getD j ""])) hp3 (by omega) (by omega)


def spLook : Sp := fun vs H Q _ => ∃ F v1 v2 a b h, vs = [v1, v2, .str h] ∧ Same F H ∧ Dq F v1 (hD a) ∧ Dq F v2 (hD b) ∧ a.length ≤ 1000 ∧ b.length ≤ 1000 ∧ ∀ F2 H2, Fr M0 F H F2 H2 → Q (.bl (decide (viewM a h = viewM b h))) H2
theorem eo_view {ta tb : TE} {σ : L2.St} {F : Hp} {es : List Exch} {h : Str} {E : XK} (ha : EvF ta σ F (hD es)) (hb : EvF tb σ F (.str h)) (hl : es.length ≤ 1000) : EvO (tCall spView [] E (tCons ta (tCons tb tNil))) σ F ((viewM es h).map exD) := fun H s Q q =>
  ha H s _ fun x F1 H1 f1 dx => (hb.mono f1.ff) H1 f1.fh _ fun y F2 H2 f2 dy => by
    cases dy.strE
    exact ⟨F2, x, es, h, rfl, f2.fh, dx.mono f2.ff, hl, fun p vs' F3 H3 f3 np nf hp dv => q p vs' F3 H3 ((f1.trans f2).trans f3) ((f1.trans f2).st _ np) nf hp dv⟩
theorem exD_eqv (a b : Exch) : PyData.eqv (exD a) (exD b) = decide (a = b) := by
  obtain ⟨a1, a2, a3⟩ := a
  obtain ⟨b1, b2, b3⟩ := b
  have e : PyData.eqv (exD (a1, a2, a3)) (exD (b1, b2, b3)) = (PyData.eqv (.str a1) (.str b1) && (PyData.eqv (.str a2) (.str b2) && (PyData.eqv (.str a3) (.str b3) && true))) := by simp only [exD, PyData.eqv, PyData.eqvAll]
  rw [e, eqv_str, eqv_str, eqv_str, Bool.and_true, ← Bool.decide_and, ← Bool.decide_and]
  exact decide_eq_decide.mpr (by simp only [Prod.mk.injEq])
theorem hD_eqv (a b : List Exch) : PyData.eqv (hD a) (hD b) = decide (a = b) := eqv_list exD exD_eqv a b
theorem ok_look_alike (T : Top K mg) : FnOk P w K mg base CX0 2 T.a_look_alike T.fd_look_alike ["one", "other", "hand"] spLook := by
  refine T.F_look_alike.ok sc_look_alike (fun vs H Q E h => ?_) (fun cdv A outer s H vs Q E hr h => ?_)
  · obtain ⟨_, _, _, _, _, _, rfl, _⟩ := h
    rfl
  · obtain ⟨F, v1, v2, a, b, h, rfl, sF, d1, d2, la, lb, q⟩ := h
    refine ⟨_, (pss_one (ps_ret (pe_cmpR (op_eqQ hr.units) (pe_call (ok_view T) (hr.mono (by decide)) (by rfl) T.g_view T.F_view.kp T.b_view .nil pass0 (pa_cons (pv 0) (pa_cons (pv 2) pa_nil))) (pe_call (ok_view T) (hr.mono (by decide)) (by rfl) T.g_view T.F_view.kp T.b_view .nil pass0 (pa_cons (pv 1) (pa_cons (pv 2) pa_nil))) (nomark _)))), ?_⟩
    refine ev_eq (d := hD (viewM a h)) (e := hD (viewM b h)) (eo_view (ev_var rfl d1) (ev_var rfl (.str h)) la).f (eo_view (ev_var rfl d2) (ev_var rfl (.str h)) lb).f (hD_plain _) (hD_plain _) (Nat.le_trans (hD_depth _) (by decide)) H sF _ fun v F2 H2 f2 dv => ?_
    cases dv.blE
    rw [hD_eqv]
    exact q F2 H2 f2
theorem ev_look {ta tb tc : TE} {σ : L2.St} {F : Hp} {a b : List Exch} {h : Str} {E : XK} (ha : EvF ta σ F (hD a)) (hb : EvF tb σ F (hD b)) (hc : EvF tc σ F (.str h)) (la : a.length ≤ 1000) (lb : b.length ≤ 1000) :
    EvF (tCall spLook [] E (tCons ta (tCons tb (tCons tc tNil)))) σ F (.bool (decide (viewM a h = viewM b h))) := fun H s Q q =>
  (ea_cons ha (ea_cons hb (ea_cons hc ea_nil))) H s _ fun vs F2 H2 f2 dvs => by
    cases dvs with
    | cons d1 t => cases t with
      | cons d2 t => cases t with
        | cons d3 t => cases t with
          | nil =>
            cases d3.strE
            exact ⟨F2, _, _, a, b, h, rfl, f2.fh, d1, d2, la, lb, fun F3 H3 f3 => q _ F3 H3 (f2.trans f3) (.bl _)⟩
/-! ### odd lists -/
def cutH (es : List Exch) (lo hi : Option Int) : List Exch := (es.drop (HT.sIx es.length 0 lo)).take (HT.sIx es.length es.length hi - HT.sIx es.length 0 lo)
theorem cutH_len (es : List Exch) (lo hi : Option Int) : (cutH es lo hi).length ≤ es.length := by
  unfold cutH
  rw [List.length_take, List.length_drop]
  omega
section
variable {σ : L2.St} {F : Hp} {ta tb : TE} {tl th : TO} {es fs : List Exch} {lo hi : Option Int}
theorem eo_slH (ha : EvF ta σ F (hD es)) (hl : EvI tl σ F lo) (hh : EvI th σ F hi) : EvO (tSl (rSlL K) ta tl th) σ F ((cutH es lo hi).map exD) := (eo_slL (ds := es.map exD) ha hl hh).is (by
  unfold Ly.cutD cutH
  rw [List.length_map, List.map_take, List.map_drop])
theorem eo_catH (ha : EvF ta σ F (hD es)) (hb : EvF tb σ F (hD fs)) (hl : es.length + fs.length ≤ 1000) : EvO (tOp rCat ta tb) σ F ((es ++ fs).map exD) := (eo_cat (ds := es.map exD) (es := fs.map exD) ha hb (by rw [List.length_map, List.length_map]; omega)).is (by rw [List.map_append])
theorem eo_revH (ha : EvF ta σ F (hD es)) : EvO (tRevL K ta) σ F (es.reverse.map exD) := (eo_rev (ds := es.map exD) ha).is (by rw [List.map_reverse])
theorem eo_oneH {e : Exch} (ha : EvF ta σ F (exD e)) : EvO (tLst (tCons ta tNil)) σ F ([e].map exD) := eo_lst (ea_cons ha ea_nil) (show 1 ≤ 10000 by decide)
end
def spOdd : Sp := fun vs H Q _ => ∃ (F : Hp) (p : Addr) (v1 v2 : V) (es : List Exch) (ss : List Str) (c : Int), vs = [.ref p, v1, v2] ∧ Same F H ∧ F p = none ∧ Purse H p c ∧ Dq F v1 (hD es) ∧ es.length ≤ 20 ∧ Dq F v2 (.list (ss.map PyData.str)) ∧ 2 ≤ ss.length ∧ ss.length ≤ 10 ∧ c + 42 ≤ 1000000 ∧
  ∀ (L : List (List Exch)) f vf F2 H2 c', (∀ l ∈ L, l.length ≤ 100) → L.length ≤ 10 → Fr (fun a => a = p) F H F2 H2 → H f = none → F2 f = none → H2 f = some (.lst vf) → DqAll F2 vf (L.map hD) → Purse H2 p c' → c' ≤ c + 42 → Q (.ref f) H2
theorem ok_law_odd_lists (T : Top K mg) : FnOk P w K mg base CX0 5 T.a_law_odd_lists T.fd_law_odd_lists ["_law_purse_here", "_law_history", "_law_people"] spOdd := by
  refine T.F_law_odd_lists.ok sc_law_odd_lists (fun vs H Q E h => ?_) (fun cdv A outer s H vs Q E hr h => ?_)
  · obtain ⟨_, _, _, _, _, _, _, rfl, _⟩ := h
    rfl
  · obtain ⟨F, p, v1, v2, es, ss, c, rfl, sF, nF, hp, d1, les, d2, h2, h10, hc, q⟩ := h
    obtain ⟨x1, vs1, rfl, ex1, dv1⟩ := d1.lstE
    refine ⟨_, (pss_cons (ps_set (i := 3) sc_law_odd_lists.nd rfl (Or.inl rfl) (pe_call (ok_law_draw T) (hr.mono (by decide)) (by rfl) T.g_law_draw T.F_law_draw.kp T.b_law_draw .nil pass0 (pa_cons (pv 0) (pa_cons (pe_op op_add (pe_callB (call_lenK K rfl) (by rfl) T.z_len (by decide +kernel) (pa_cons (pv 1) pa_nil)) pe_int) pa_nil))))
 (pss_cons (ps_set (i := 4) sc_law_odd_lists.nd rfl (Or.inl rfl) (pe_slice (sl_listK K rfl) (pe_call (ok_law_order T) (hr.mono (by decide)) (by rfl) T.g_law_order T.F_law_order.kp T.b_law_order .nil pass0 (pa_cons (pv 0) (pa_cons (pv 2) pa_nil))) po_none (po_some pe_int)))
 (pss_cons (ps_set (i := 5) sc_law_odd_lists.nd rfl (Or.inl rfl) (pe_tup (pa_cons (pe_ix (ix_seqK K rfl) (pv 4) pe_int (fun _ _ => rfl)) (pa_cons (pe_ix (ix_seqK K rfl) (pv 4) pe_int (fun _ _ => rfl)) (pa_cons (pe_ix (ix_seqK K rfl) (pe_call (ok_law_names T) (hr.mono (by decide)) (by rfl) T.g_law_names T.F_law_names.kp T.b_law_names .nil pass0 (pa_cons (pv 0) (pa_cons pe_int pa_nil))) pe_int (fun _ _ => rfl)) pa_nil)))))
 (pss_cons (ps_set (i := 6) sc_law_odd_lists.nd rfl (Or.inl rfl) (pe_lst (pa_cons (pe_op op_cat (pe_slice (sl_listK K rfl) (pv 1) po_none (po_some (pv 3))) (pe_slice (sl_listK K rfl) (pv 1) (po_some (pe_op op_add (pv 3) pe_int)) po_none)) (pa_cons (pe_op op_cat (pe_op op_cat (pe_slice (sl_listK K rfl) (pv 1) po_none (po_some (pv 3))) (pe_lst (pa_cons (pv 5) pa_nil))) (pe_slice (sl_listK K rfl) (pv 1) (po_some (pv 3)) po_none)) (pa_cons (pe_slice (sl_listK K rfl) (pv 1) (po_some (pv 3)) po_none) (pa_cons (pe_revLK K rfl (pv 1)) pa_nil))))))
 (pss_cons (ps_set (i := 6) sc_law_odd_lists.nd rfl (Or.inl rfl) (pe_op op_cat (pv 6) (pe_lst (pa_cons (pe_op op_cat (pe_op op_cat (pe_slice (sl_listK K rfl) (pv 1) po_none (po_some (pv 3))) (pe_lst (pa_cons (pv 5) pa_nil))) (pe_slice (sl_listK K rfl) (pv 1) (po_some (pe_op op_add (pv 3) pe_int)) po_none)) (pa_cons (pe_op op_cat (pe_slice (sl_listK K rfl) (pv 1) po_none (po_some (pv 3))) (pe_revLK K rfl (pe_slice (sl_listK K rfl) (pv 1) (po_some (pv 3)) po_none))) pa_nil)))))
 (pss_cons (ps_if (pt_cmpR (op_neQ hr.units) (pv 1) (pe_lst pa_nil) (nomark _)) (pss_cons (ps_asg (pe_ix (ix_seqK K rfl) (pv 1) (pe_un un_neg pe_int) (fun _ _ => rfl)) (pg_tup (by rfl) (pgs_cons (pg_name (i := 7) sc_law_odd_lists.nd rfl (Or.inl rfl)) (pgs_cons (pg_name (i := 8) sc_law_odd_lists.nd rfl (Or.inl rfl)) (pgs_cons (pg_name (i := 9) sc_law_odd_lists.nd rfl (Or.inl rfl)) pgs_nil)))))
 (pss_one (ps_set (i := 6) sc_law_odd_lists.nd rfl (Or.inl rfl) (pe_op op_cat (pv 6) (pe_lst (pa_cons (pe_op op_cat (pe_slice (sl_listK K rfl) (pv 1) po_none (po_some (pe_un un_neg pe_int))) (pe_lst (pa_cons (pe_tup (pa_cons (pv 8) (pa_cons (pv 7) (pa_cons (pv 9) pa_nil)))) pa_nil))) (pa_cons (pe_op op_cat (pv 1) (pe_slice (sl_listK K rfl) (pv 1) (po_some (pe_un un_neg pe_int)) po_none)) pa_nil))))))) pss_nil)
 (pss_one (ps_ret (pv 6))))))))), ?_⟩
    have lv1 : vs1.length = es.length := by rw [dv1.length, List.length_map]
    refine s_wp ?_
    refine ⟨_, rfl, _, rfl, x1, vs1, rfl, .inl (SqL.of (sF _ _ ex1)), _, _, rfl, rfl, p, _, c, rfl, by omega, by omega, hp, by omega, fun r H1 c1 r0 r1 kp1 st1 hp1 hc1 hc1' => ?_⟩
    have f1 : Fr (fun a => a = p) F H F H1 := Fr.kept sF nF kp1 st1
    obtain ⟨j, rfl⟩ := Int.eq_ofNat_of_zero_le r0
    refine s_wp ?_
    refine ⟨_, rfl, _, rfl, F, p, v2, ss.map PyData.str, c1, rfl, f1.fh, nF, hp1, d2, plainAll_strs ss, ⟨by rw [List.length_map]; omega, fun d hd => ?_⟩, by rw [List.length_map]; omega, fun f vf H2 c2 ds' pm fr nf ef dvf hp2 hc2 hc2' => ?_⟩
    · obtain ⟨z, _, rfl⟩ := List.mem_map.mp hd
      exact Nat.zero_le _
    rw [List.length_map] at hc2'
    obtain ⟨L, rfl, pmL⟩ := perm_map_ex PyData.str (fun | .str s => s | _ => "") (fun _ => rfl) pm
    cases dvf.strsE
    have hL : L.length = ss.length := pmL.length_eq
    obtain ⟨x, y, rest, rfl⟩ : ∃ x y rest, L = x :: y :: rest := by
      match L, hL with
      | [], hL => simp only [List.length_nil] at hL; omega
      | [_], hL => simp only [List.length_cons, List.length_nil] at hL; omega
      | x :: y :: rest, _ => exact ⟨x, y, rest, rfl⟩
    refine ⟨2, rfl, f, _, rfl, SqL.of ef, fun g ng => ?_⟩
    have eg : (upd H2 g (.lst (cutV ((x :: y :: rest).map V.str) none (some 2)))) g = some (.lst [.str x, .str y]) := by
      rw [upd_same]
      exact congrArg (fun z => some (HO.lst z)) (cutV_to _ 2)
    have f2 := (f1.trans fr).trans (Fr.own (o := .lst (cutV ((x :: y :: rest).map V.str) none (some 2))) fr.fh ng)
    refine s_wp ?_
    refine ⟨_, rfl, .inl ⟨g, _, 0, .str x, rfl, rfl, SqL.of eg, rfl, _, rfl, .inl ⟨g, _, 1, .str y, rfl, rfl, SqL.of eg, rfl, _, rfl, p, 1, c2, rfl, hp2.new ng, by omega, fun L3 k H3 c3 pm3 kp3 st3 nk ek hp3 hc3 hc3' => ?_⟩⟩⟩
    obtain ⟨z, L4, rfl⟩ : ∃ z L4, L3 = z :: L4 := by
      match L3, pm3.length_eq with
      | [], h => cases h
      | z :: L4, _ => exact ⟨z, L4, rfl⟩
    refine .inl ⟨k, _, 0, .str z, rfl, rfl, SqL.of ek, rfl, (by show 3 ≤ sizeLine; decide), fun t nt => ?_⟩
    have f3 := (f2.trans (Fr.kept f2.fh nF kp3 st3))
    have f4 := f3.trans (Fr.new (M := fun a => a = p) (o := .tup [.str x, .str y, .str z]) f3.fh nt)
    have dt : Dq (upd F t (.tup [.str x, .str y, .str z])) (.ref t) (exD (x, y, z)) := .tup upd_same (DqAll.strs [x, y, z])
    have hp4 : Purse (upd H3 t (.tup [.str x, .str y, .str z])) p c3 := hp3.new nt
    clear hp1 hp2 hp3
    generalize hF4 : upd F t (.tup [.str x, .str y, .str z]) = F4 at f4 dt
    generalize hH4 : upd H3 t (.tup [.str x, .str y, .str z]) = H4 at f4 hp4 ⊢
    generalize hS : ((x, y, z) : Exch) = S at dt
    have d1' : Dq F4 (.ref x1) (hD es) := d1.mono f4.ff
    have vh := fun (σ : L2.St) (F5 : Hp) (s5 : Same F4 F5) (e1 : σ[1]? = some (some (.ref x1))) => (ev_var e1 (d1'.mono s5) : EvF (tVar 1) σ F5 (hD es))
    have vj := fun (σ : L2.St) (F5 : Hp) (e3 : σ[3]? = some (some (.int (j : Int)))) => (ev_var e3 (.int _) : EvF (tVar 3) σ F5 (.int (j : Int)))
    have vj1 := fun (σ : L2.St) (F5 : Hp) (e3 : σ[3]? = some (some (.int (j : Int)))) => (ev_I0 (ev_var e3 (.int _)) ev_int fun _ => .int _ : EvF (tOp (rI0 fun i j => .int (i + j)) (tVar 3) (tC (.int 1))) σ F5 (.int ((j : Int) + 1)))
    have vt := fun (σ : L2.St) (F5 : Hp) (s5 : Same F4 F5) (e5 : σ[5]? = some (some (.ref t))) => (ev_var e5 (dt.mono s5) : EvF (tVar 5) σ F5 (exD S))
    have m1 := fun (σ : L2.St) (F5 : Hp) => (ev_neg ev_int : EvF (tUn (rU fun i => .int (-i)) (tC (.int 1))) σ F5 (.int (-1)))
    have sl1 := fun σ F5 s5 e1 e3 => (eo_slH (K := K) (vh σ F5 s5 e1) ei_none (ei_some (vj σ F5 e3))).f
    have sl2 := fun σ F5 s5 e1 e3 => (eo_slH (K := K) (vh σ F5 s5 e1) (ei_some (vj1 σ F5 e3)) ei_none).f
    have sl3 := fun σ F5 s5 e1 e3 => (eo_slH (K := K) (vh σ F5 s5 e1) (ei_some (vj σ F5 e3)) ei_none).f
    have sl4 := fun σ F5 s5 e1 => (eo_slH (K := K) (vh σ F5 s5 e1) ei_none (ei_some (m1 σ F5))).f
    have sl5 := fun σ F5 s5 e1 => (eo_slH (K := K) (vh σ F5 s5 e1) (ei_some (m1 σ F5)) ei_none).f
    have c1 := cutH_len es none (some (j : Int))
    have c2 := cutH_len es (some ((j : Int) + 1)) none
    have c3' := cutH_len es (some (j : Int)) none
    have c4 := cutH_len es none (some (-1))
    have c5 := cutH_len es (some (-1)) none
    have sS := fun σ F5 s5 e1 e3 e5 => (eo_catH (sl1 σ F5 s5 e1 e3) (eo_oneH (vt σ F5 s5 e5)).f (by simp only [List.length_singleton]; omega)).f
    have a1 := fun σ F5 s5 e1 e3 => (eo_catH (sl1 σ F5 s5 e1 e3) (sl2 σ F5 s5 e1 e3) (by omega)).f
    have a2 := fun σ F5 s5 e1 e3 e5 => (eo_catH (sS σ F5 s5 e1 e3 e5) (sl3 σ F5 s5 e1 e3) (by simp only [List.length_append, List.length_singleton]; omega)).f
    have b1 := fun σ F5 s5 e1 e3 e5 => (eo_catH (sS σ F5 s5 e1 e3 e5) (sl2 σ F5 s5 e1 e3) (by simp only [List.length_append, List.length_singleton]; omega)).f
    have b2 := fun σ F5 s5 e1 e3 => (eo_catH (sl1 σ F5 s5 e1 e3) (eo_revH (K := K) (sl3 σ F5 s5 e1 e3)).f (by simp only [List.length_reverse]; omega)).f
    refine s_asg (eo_lst (ea_cons (a1 _ F4 (fun _ _ e => e) rfl rfl) (ea_cons (a2 _ F4 (fun _ _ e => e) rfl rfl rfl) (ea_cons (sl3 _ F4 (fun _ _ e => e) rfl rfl) (ea_cons (eo_revH (K := K) (vh _ F4 (fun _ _ e => e) rfl)).f ea_nil)))) (show 4 ≤ 10000 by decide)).f f4.fh fun w1 F5 H5 f5 dw1 => ?_
    have dw1 : Dq F5 w1 (.list ([cutH es none (some (j : Int)) ++ cutH es (some ((j : Int) + 1)) none, cutH es none (some (j : Int)) ++ [S] ++ cutH es (some (j : Int)) none, cutH es (some (j : Int)) none, es.reverse].map hD)) := dw1
    generalize hL1 : [cutH es none (some (j : Int)) ++ cutH es (some ((j : Int) + 1)) none, cutH es none (some (j : Int)) ++ [S] ++ cutH es (some (j : Int)) none, cutH es (some (j : Int)) none, es.reverse] = L1 at dw1
    have l1 : L1.length = 4 ∧ ∀ l ∈ L1, l.length ≤ 100 := by
      subst hL1
      refine ⟨rfl, fun l hl => ?_⟩
      simp only [List.mem_cons, List.not_mem_nil, or_false] at hl
      rcases hl with rfl | rfl | rfl | rfl <;> (try simp only [List.length_append, List.length_singleton, List.length_reverse]) <;> omega
    refine s_asgO (eo_cat (ev_var (d := .list (L1.map hD)) rfl dw1) (eo_lst (ea_cons (b1 _ F5 f5.ff rfl rfl rfl) (ea_cons (b2 _ F5 f5.ff rfl rfl) ea_nil)) (show 2 ≤ 10000 by decide)).f (by rw [List.length_map, l1.1]; exact (by decide : 4 + 2 ≤ 100000))) f5.fh fun w2 ws2 F6 H6 f6 nw2 nF2 ew2 dw2 => ?_
    have dw2 : DqAll F6 ws2 ((L1 ++ [cutH es none (some (j : Int)) ++ [S] ++ cutH es (some ((j : Int) + 1)) none, cutH es none (some (j : Int)) ++ (cutH es (some (j : Int)) none).reverse]).map hD) := by
      rw [List.map_append]
      exact dw2
    generalize hL2 : L1 ++ [cutH es none (some (j : Int)) ++ [S] ++ cutH es (some ((j : Int) + 1)) none, cutH es none (some (j : Int)) ++ (cutH es (some (j : Int)) none).reverse] = L2 at dw2
    have l2 : L2.length = 6 ∧ ∀ l ∈ L2, l.length ≤ 100 := by
      subst hL2
      refine ⟨by rw [List.length_append, l1.1]; rfl, fun l hl => ?_⟩
      rcases List.mem_append.mp hl with hl | hl
      · exact l1.2 l hl
      · simp only [List.mem_cons, List.not_mem_nil, or_false] at hl
        rcases hl with rfl | rfl <;> (try simp only [List.length_append, List.length_singleton, List.length_reverse]) <;> omega
    have f46 := f5.trans f6
    have nw2H : H w2 = none := f4.st _ (f5.st _ nw2)
    refine s_when (et_test (ev_ne (vh _ F6 f46.ff rfl) (eo_lst ea_nil (Nat.zero_le _)).f (hD_plain _) rfl (Nat.le_trans (hD_depth _) (by decide)))) f6.fh (fun hne F7 H7 f7 => ?_) fun hne F7 H7 f7 => ?_
    rotate_left
    · exact ⟨_, rfl, q L2 w2 ws2 F6 H7 c3 (fun l hl => l2.2 l hl) (by rw [l2.1]; decide) ((f4.trans f46.up).trans f7.drop.up) nw2H nF2 (f7.hh _ _ ew2 fun z => z) dw2 (hp4.keep fun o e => f7.hh _ _ (f46.hh _ _ e fun z => z) fun z => z) (by omega)⟩
    · have hes : es ≠ [] := fun z => by subst z; cases hne
      have f67 := f7.drop
      have ew27 : H7 w2 = some (.lst ws2) := f7.hh _ _ ew2 fun z => z
      obtain ⟨e, he⟩ : ∃ e, atI (es.map exD) (-1) = some (exD e) := by
        obtain ⟨z, zs, rfl⟩ : ∃ z zs, es = zs ++ [z] := ⟨es.getLast hes, es.dropLast, (List.dropLast_concat_getLast hes).symm⟩
        exact ⟨z, by rw [List.map_append]; exact atI_last _ _⟩
      refine (ev_ixL (K := K) (ds := es.map exD) (vh _ F6 f46.ff rfl) (m1 _ F6) he) H7 f67.fh _ fun y1 F8 H8 f8 dy1 => ?_
      obtain ⟨y, ys, rfl, ey, dys⟩ := dy1.tupE
      cases dys.strsE (ss := [e.1, e.2.1, e.2.2])
      refine ⟨y, _, rfl, SqT.of (f8.fh _ _ ey), rfl, _, _, rfl, _, _, rfl, _, _, rfl, rfl, ?_⟩
      have f68 := f67.trans f8
      have s8 : Same F4 F8 := fun a o z => f68.ff _ _ (f46.ff _ _ z)
      have ew28 : H8 w2 = some (.lst ws2) := f8.hh _ _ ew27 fun z => z
      have nw28 : F8 w2 = none := f8.nw _ _ nF2 ew27
      have fall : Fr (fun a => a = p) F H F8 H8 := (f4.trans f46.up).trans f68.up
      have fall2 := fall.take nw2H ew28
      have up8 : Same F8 (upd F8 w2 (.lst ws2)) := fun a o z => by rw [upd_ne (ne_of_none z nw28)]; exact z
      have s9 : Same F4 (upd F8 w2 (.lst ws2)) := fun a o z => up8 _ _ (s8 _ _ z)
      have g1 := fun (σ : _root_.L2.St) (e1 : σ[1]? = some (some (V.ref x1))) (e7 : σ[7]? = some (some (V.str e.1))) (e8 : σ[8]? = some (some (V.str e.2.1))) (e9 : σ[9]? = some (some (V.str e.2.2))) => (eo_catH (sl4 σ _ s9 e1) (eo_oneH (e := (e.2.1, e.1, e.2.2)) (ev_tup (ea_cons (ev_var (v := .str e.2.1) e8 (.str _)) (ea_cons (ev_var (v := .str e.1) e7 (.str _)) (ea_cons (ev_var (v := .str e.2.2) e9 (.str _)) ea_nil))) (show 3 ≤ 10000 by decide))).f (by simp only [List.length_singleton]; omega)).f
      have g2 := fun (σ : _root_.L2.St) (e1 : σ[1]? = some (some (V.ref x1))) => (eo_catH (vh σ _ s9 e1) (sl5 σ _ s9 e1) (by omega)).f
      refine (eo_cat (ev_var (v := .ref w2) (d := .list (L2.map hD)) rfl (.lst upd_same ((dw2.mono f68.ff).mono up8))) (eo_lst (ea_cons (g1 _ rfl rfl rfl rfl) (ea_cons (g2 _ rfl) ea_nil)) (show 2 ≤ 10000 by decide)).f (by rw [List.length_map, l2.1]; exact (by decide : 6 + 2 ≤ 100000))) H8 fall2.fh _ fun w3 ws3 F9 H9 f9 nw3 nF3 ew3 dw3 => ?_
      have dw3 : DqAll F9 ws3 ((L2 ++ [cutH es none (some (-1)) ++ [(e.2.1, e.1, e.2.2)], es ++ cutH es (some (-1)) none]).map hD) := by
        rw [List.map_append]
        exact dw3
      refine ⟨_, rfl, ?_⟩
      have l3 : (L2 ++ [cutH es none (some (-1)) ++ [(e.2.1, e.1, e.2.2)], es ++ cutH es (some (-1)) none]).length ≤ 10 := by rw [List.length_append, l2.1]; exact (by decide : 6 + 2 ≤ 10)
      refine q _ w3 ws3 F9 H9 c3 (fun l hl => ?_) l3 (fall2.trans f9.up) (fall.st _ nw3) nF3 ew3 dw3 (hp4.keep fun o e => f9.hh _ _ (f68.hh _ _ (f46.hh _ _ e fun z => z) fun z => z) fun z => z) (by omega)
      rcases List.mem_append.mp hl with hl | hl
      · exact l2.2 l hl
      · simp only [List.mem_cons, List.not_mem_nil, or_false] at hl
        rcases hl with rfl | rfl <;> (try simp only [List.length_append, List.length_singleton]) <;> omega

/-! ### right -/
theorem viewM_len (es : List Exch) (h : Str) : (viewM es h).length ≤ es.length := List.length_filter_le _ _
theorem viewM_twice (es : List Exch) (h : Str) : viewM (viewM es h) h = viewM es h := by
  unfold viewM
  rw [List.filter_filter]
  exact List.filter_congr fun x _ => Bool.and_self _
def fMine (h : Str) : PyData → Bool
  | .tuple (a :: b :: _) => PyData.eqv a (.str h) || PyData.eqv b (.str h)
  | _ => false
theorem fMine_ex (h : Str) (e : Exch) : fMine h (exD e) = hasH h e := rfl
def spRight : Sp := fun vs H Q _ => ∃ (F : Hp) (v1 v2 v3 : V) (a b : List Exch) (ss : List Str), vs = [v1, v2, v3] ∧ Same F H ∧ Dq F v1 (hD a) ∧ Dq F v2 (hD b) ∧ Dq F v3 (.list (ss.map PyData.str)) ∧ a.length ≤ 1000 ∧ b.length ≤ 1000 ∧ ss.length ≤ 20 ∧
  ∀ F2 H2, Fr M0 F H F2 H2 → Q (.bl true) H2
/-- the law's own view -/
theorem eo_mine {tl tn : TE} {σ : L2.St} {F : Hp} {es : List Exch} {h : Str} {j : Nat} {vs : List Nat} (hl : EvF tl σ F (hD es)) (hz : es.length ≤ 1000) (hw : ∀ x, wipe ((wipe σ vs).set j (some x)) vs = wipe σ vs)
    (hx : ∀ x, ((wipe σ vs).set j (some x))[j]? = some (some x)) (hn : ∀ x F1, Same F F1 → EvF tn ((wipe σ vs).set j (some x)) F1 (.str h)) :
    EvO (tLc (iList K tl) (gName j) (tOr (tTest (tOp rEqQ (tOp (rIx K) (tVar j) (tC (.int 0))) tn)) (tTest (tOp rEqQ (tOp (rIx K) (tVar j) (tC (.int 1))) tn))) (tVar j) vs) σ F ((viewM es h).map exD) := by
  refine (eo_lcL (ds := es.map exD) (fMine h) id hl (by rw [List.length_map]; omega) hw ?_ ?_).is (gathered_map exD _ _ (fMine_ex h) es)
  · intro d x F1 hm s1 dx
    obtain ⟨e, _, rfl⟩ := List.mem_map.mp hm
    exact et_or (et_test (ev_eq (ev_ixT (ev_var (hx x) dx) ev_int (d := .str e.1) rfl) (hn x F1 s1) rfl rfl (Nat.zero_le _))) fun _ => et_test (ev_eq (ev_ixT (ev_var (hx x) dx) ev_int (d := .str e.2.1) rfl) (hn x F1 s1) rfl rfl (Nat.zero_le _))
  · intro d x F1 hm s1 dx _
    exact ev_var (hx x) dx
theorem ok_law_right (T : Top K mg) : FnOk P w K mg base CX0 3 T.a_law_right T.fd_law_right ["_law_one", "_law_other", "_law_people"] spRight := by
  refine T.F_law_right.ok sc_law_right (fun vs H Q E h => ?_) (fun cdv A outer s H vs Q E hr h => ?_)
  · obtain ⟨_, _, _, _, _, _, _, rfl, _⟩ := h
    rfl
  · obtain ⟨F, v1, v2, v3, a, b, ss, rfl, sF, d1, d2, d3, la, lb, ls, q⟩ := h
    refine ⟨_, (pss_cons (ps_set (i := 3) sc_law_right.nd rfl (Or.inl rfl) (pe_lst (pa_cons (pe_callTy (call_listK K rfl) (by rfl) T.z_list (by decide +kernel) (pa_cons (pv 0) pa_nil)) (pa_cons (pe_callTy (call_listK K rfl) (by rfl) T.z_list (by decide +kernel) (pa_cons (pv 1) pa_nil)) pa_nil))))
 (pss_cons (ps_for PassesOwn.never rfl (pi_listK K rfl (pe_op op_cat (pv 2) (pe_lst (pa_cons pe_str pa_nil)))) (pg_name (i := 4) sc_law_right.nd rfl (Or.inr rfl)) (pss_cons (ps_setLc (i := 5) (own := [("_law_exchange_here", 10)]) (g := gName 10) (tt := _) rfl sc_law_right.nd rfl rfl (sw_true rfl rfl rfl (by decide +kernel)) (pi_listK K rfl (pv 0)) (blkOk_by (own := [("_law_exchange_here", 10)]) (N := ["_law_one", "_law_other", "_law_people", "_law_stayed", "_law_name", "_law_mine", "_law_its", "_law_turn", "_law_found", "_law_truths", "_law_exchange_here"]) (sc := defScope s_law_right) (by decide +kernel)) (fun _ _ _ _ _ => (pg_name (i := 10) sc_law_right.nd rfl (Or.inl rfl))) (fun _ _ _ _ _ => pts_one (PW.pt (pw_or (pt_cmpR (op_eqQ hr.units) (pe_ix (ix_seqK K rfl) (pv 10) pe_int (fun _ _ => rfl)) (pv 4) (nomark _)) (pw_or1 (pt_cmpR (op_eqQ hr.units) (pe_ix (ix_seqK K rfl) (pv 10) pe_int (fun _ _ => rfl)) (pv 4) (nomark _)))))) (fun _ _ _ _ _ => (pv 10)))
 (pss_cons (ps_setLc (i := 6) (own := [("_law_exchange_here", 10)]) (g := gName 10) (tt := _) rfl sc_law_right.nd rfl rfl (sw_true rfl rfl rfl (by decide +kernel)) (pi_listK K rfl (pv 1)) (blkOk_by (own := [("_law_exchange_here", 10)]) (N := ["_law_one", "_law_other", "_law_people", "_law_stayed", "_law_name", "_law_mine", "_law_its", "_law_turn", "_law_found", "_law_truths", "_law_exchange_here"]) (sc := defScope s_law_right) (by decide +kernel)) (fun _ _ _ _ _ => (pg_name (i := 10) sc_law_right.nd rfl (Or.inl rfl))) (fun _ _ _ _ _ => pts_one (PW.pt (pw_or (pt_cmpR (op_eqQ hr.units) (pe_ix (ix_seqK K rfl) (pv 10) pe_int (fun _ _ => rfl)) (pv 4) (nomark _)) (pw_or1 (pt_cmpR (op_eqQ hr.units) (pe_ix (ix_seqK K rfl) (pv 10) pe_int (fun _ _ => rfl)) (pv 4) (nomark _)))))) (fun _ _ _ _ _ => (pv 10)))
 (pss_cons (ps_for PassesOwn.never rfl (pi_range1 rfl T.z_range (pa_cons pe_int pa_nil)) (pg_name (i := 7) sc_law_right.nd rfl (Or.inl rfl)) (pss_cons (ps_set (i := 8) sc_law_right.nd rfl (Or.inl rfl) (pe_call (ok_view T) (hr.mono (by decide)) (by rfl) T.g_view T.F_view.kp T.b_view .nil pass0 (pa_cons (pv 0) (pa_cons (pv 4) pa_nil))))
 (pss_cons (ps_if (PW.pt (pw_or (pt_not (pt_val (pe_callB (call_isiK' K rfl) (by rfl) T.z_isinstance (by decide +kernel) (pa_cons (pv 8) (pa_cons (pe_bltn (v := .ty "list") (by rfl) T.z_list boot_list rfl) pa_nil))))) (pw_or1 (pt_cmpR (op_neQ hr.units) (pv 8) (pv 5) (nomark _))))) (pss_one (ps_ret pe_bl)) pss_nil)
 (pss_one (ps_expr (bmK K rfl (pe_bm PySem.F.plainAttrs_list PySem.F.slot_list_append PySem.F.type_list_append mt_append (pv 8) (pa_cons pe_non pa_nil))))))))
 (pss_cons (ps_set (i := 9) sc_law_right.nd rfl (Or.inl rfl) (pe_lst (pa_cons (pe_call (ok_look_alike T) (hr.mono (by decide)) (by rfl) T.g_look_alike T.F_look_alike.kp T.b_look_alike .nil pass0 (pa_cons (pv 0) (pa_cons (pv 1) (pa_cons (pv 4) pa_nil)))) (pa_cons (pe_call (ok_look_alike T) (hr.mono (by decide)) (by rfl) T.g_look_alike T.F_look_alike.kp T.b_look_alike .nil pass0 (pa_cons (pv 1) (pa_cons (pv 0) (pa_cons (pv 4) pa_nil)))) pa_nil))))
 (pss_cons (ps_if (PW.pt (pw_or (pt_cmpR (op_neQ hr.units) (pv 9) (pe_lst (pa_cons (pe_cmpR (op_eqQ hr.units) (pv 5) (pv 6) (nomark _)) (pa_cons (pe_cmpR (op_eqQ hr.units) (pv 5) (pv 6) (nomark _)) pa_nil))) (nomark _)) (pw_or1 (pt_not (pt_val (pe_callB (call_isiK' K rfl) (by rfl) T.z_isinstance (by decide +kernel) (pa_cons (pe_ix (ix_seqK K rfl) (pv 9) pe_int (fun _ _ => rfl)) (pa_cons (pe_bltn (v := .ty "bool") (by rfl) T.z_bool boot_bool rfl) pa_nil)))))))) (pss_one (ps_ret pe_bl)) pss_nil)
 (pss_one (ps_if (PW.pt (pw_or (pt_cmpR op_notBl (pe_call (ok_look_alike T) (hr.mono (by decide)) (by rfl) T.g_look_alike T.F_look_alike.kp T.b_look_alike .nil pass0 (pa_cons (pv 0) (pa_cons (pv 5) (pa_cons (pv 4) pa_nil)))) pe_bl (nomark _)) (pw_or1 (pt_cmpR (op_neQ hr.units) (pe_call (ok_view T) (hr.mono (by decide)) (by rfl) T.g_view T.F_view.kp T.b_view .nil pass0 (pa_cons (pv 5) (pa_cons (pv 4) pa_nil))) (pv 5) (nomark _))))) (pss_one (ps_ret pe_bl)) pss_nil))))))))
 (pss_one (ps_ret (pe_cmpR (op_eqQ hr.units) (pe_lst (pa_cons (pv 0) (pa_cons (pv 1) pa_nil))) (pv 3) (nomark _)))))), ?_⟩
    refine s_asg (eo_lst (ea_cons (eo_list (ds := a.map exD) (ev_var rfl d1)).f (ea_cons (eo_list (ds := b.map exD) (ev_var rfl d2)).f ea_nil)) (show 2 ≤ 10000 by decide)).f sF fun w1 F1 H1 f1 dw1 => ?_
    have dw1 : Dq F1 w1 (.list ([a, b].map hD)) := dw1
    refine s_forL (eo_cat (ds := ss.map PyData.str) (ev_var rfl (d3.mono f1.ff)) (eo_lst (ea_cons ev_str ea_nil) (show 1 ≤ 10000 by decide)).f (by rw [List.length_map]; exact (by omega : ss.length + 1 ≤ 100000))).f f1.fh fun a0 xs F2 H2 f2 ex dxs => ?_
    have s12 : Same F F2 := fun a o e => f2.ff _ _ (f1.ff _ _ e)
    refine ⟨fun i σ' H' => ∃ y4 y5 y6 y7 y8 y9, σ' = [some v1, some v2, some v3, some w1, y4, y5, y6, y7, y8, y9, none] ∧ Fr M0 F2 H2 F2 H', ⟨none, none, none, none, none, none, rfl, Fr.refl f2.fh⟩, fun i σ' H' ⟨_, _, _, _, _, _, _, f⟩ => f.fh, ?_, ?_⟩
    · rintro i d x σ' H3 hd dx ⟨y4, y5, y6, y7, y8, y9, rfl, f3⟩
      obtain ⟨nm, rfl⟩ : ∃ nm, d = .str nm := by
        have hm := List.mem_of_getElem? hd
        rcases List.mem_append.mp hm with hm | hm
        · obtain ⟨z, _, rfl⟩ := List.mem_map.mp hm
          exact ⟨z, rfl⟩
        · rw [List.mem_singleton] at hm
          exact ⟨_, hm⟩
      cases dx.strE
      refine s_asg (eo_mine (es := a) (h := nm) (ev_var rfl (d1.mono s12)) la (fun _ => rfl) (fun _ => rfl) fun _ _ _ => ev_var rfl (.str nm)).f f3.fh fun w5 F4 H4 f4 dw5 => ?_
      refine s_asg (eo_mine (es := b) (h := nm) (ev_var rfl (d2.mono fun a o e => f4.ff _ _ (s12 _ _ e))) lb (fun _ => rfl) (fun _ => rfl) fun _ _ _ => ev_var rfl (.str nm)).f f4.fh fun w6 F5 H5 f5 dw6 => ?_
      have s15 : Same F F5 := fun a o e => f5.ff _ _ (f4.ff _ _ (s12 _ _ e))
      have d1' := d1.mono s15
      have d2' := d2.mono s15
      have dw5' : Dq F5 w5 (hD (viewM a nm)) := dw5.mono f5.ff
      have dw6' : Dq F5 w6 (hD (viewM b nm)) := dw6
      have la' : (viewM a nm).length ≤ 1000 := Nat.le_trans (viewM_len _ _) la
      refine s_forR (ea_cons (d := .int 2) ev_int ea_nil) ⟨by decide, by decide⟩ f5.fh fun F6 H6 f6 => ?_
      have f56 := f6.drop
      refine ⟨fun i σ' H' => ∃ y7 y8, σ' = [some v1, some v2, some v3, some w1, some (.str nm), some w5, some w6, y7, y8, y9, none] ∧ Fr M0 F5 H5 F5 H', ⟨y7, y8, rfl, f56⟩, ?_, ?_⟩
      · rintro k σ' H7 hk ⟨y7, y8, rfl, f7⟩
        refine s_asgO (eo_view (es := a) (h := nm) (ev_var rfl d1') (ev_var rfl (.str nm)) la) f7.fh fun fp vf F8 H8 f8 nf nF ef dvf => ?_
        have s8 : Same F8 (upd F8 fp (.lst vf)) := fun a o z => by rw [upd_ne (ne_of_none z nF)]; exact z
        have sH : Same (upd F8 fp (.lst vf)) H8 := fun a o z => by
          by_cases h : a = fp
          · subst h; rw [upd_same] at z; rw [← z]; exact ef
          · rw [upd_ne h] at z; exact f8.fh _ _ z
        have df : Dq (upd F8 fp (.lst vf)) (.ref fp) (hD (viewM a nm)) := .lst upd_same (dvf.mono s8)
        have e1 : (!true || !PyData.eqv (hD (viewM a nm)) (hD (viewM a nm))) = false := by rw [hD_eqv, decide_eq_true rfl]; rfl
        refine s_when ((et_or (et_not (et_B (ev_isi (d := hD (viewM a nm)) (b := true) (ev_var rfl df) (show kitB "list" "list" = some true by decide +kernel)))) fun _ => et_test (ev_ne (ev_var rfl df) (ev_var rfl (dw5'.mono fun a o e => s8 _ _ (f8.ff _ _ e))) (hD_plain _) (hD_plain _) (Nat.le_trans (hD_depth _) (by decide)))).is e1) sH (fun z => nomatch z) fun _ F9 H9 f9 => ?_
        have ef9 : H9 fp = some (.lst vf) := f9.hh _ _ ef fun z => z
        have lvf : vf.length ≤ 1000 := by rw [dvf.length, List.length_map]; exact la'
        refine ⟨_, rfl, .inl ⟨rfl, _, SqL.of ef9⟩, fp, vf, .non, rfl, rfl, ef9, Nat.lt_of_le_of_lt lvf (by decide), _, _, rfl, ?_⟩
        have f10 : Fr M0 F5 H7 F5 H9 := f8.drop.trans ⟨fun _ _ e => e, fun a o e => f9.hh _ _ (f8.fh _ _ (f8.ff _ _ e)) fun z => z, f9.hh, f9.st, fun _ _ e _ => e⟩
        have f11 : Fr M0 F5 H7 F5 (upd H9 fp (.lst (vf ++ [.non]))) := by
          refine ⟨fun _ _ e => e, fun a o e => ?_, fun a o e n => ?_, fun a e => ?_, fun _ _ e _ => e⟩
          · rw [upd_ne (ne_of_none (f7.fh _ _ e) nf)]; exact f10.fh _ _ e
          · rw [upd_ne (ne_of_none e nf)]; exact f10.hh _ _ e n
          · by_cases h : a = fp
            · rw [h]; exact nf
            · rw [upd_ne h] at e; exact f10.st _ e
        exact f7.trans f11
      · rintro σ' H7 ⟨y7, y8, rfl, f7⟩
        refine s_asg (eo_lst (ea_cons (ev_look (ev_var rfl d1') (ev_var rfl d2') (ev_var rfl (.str nm)) la lb) (ea_cons (ev_look (ev_var rfl d2') (ev_var rfl d1') (ev_var rfl (.str nm)) lb la) ea_nil)) (show 2 ≤ 10000 by decide)).f f7.fh fun w9 F8 H8 f8 dw9 => ?_
        have d5 := dw5'.mono f8.ff
        have d6 := dw6'.mono f8.ff
        have eqm : EvF (tOp rEqQ (tVar 5) (tVar 6)) [some v1, some v2, some v3, some w1, some (.str nm), some w5, some w6, y7, y8, some w9, none] F8 (.bool (decide (viewM a nm = viewM b nm))) := (ev_eq (ev_var rfl d5) (ev_var rfl d6) (hD_plain _) (hD_plain _) (Nat.le_trans (hD_depth _) (by decide))).is (by rw [hD_eqv])
        have e1 : ((!PyData.eqv (.list [.bool (decide (viewM a nm = viewM b nm)), .bool (decide (viewM b nm = viewM a nm))]) (.list [.bool (decide (viewM a nm = viewM b nm)), .bool (decide (viewM a nm = viewM b nm))])) || !true) = false := by
          have e2 : decide (viewM b nm = viewM a nm) = decide (viewM a nm = viewM b nm) := decide_eq_decide.mpr ⟨Eq.symm, Eq.symm⟩
          rw [e2]
          cases decide (viewM a nm = viewM b nm) <;> decide
        refine s_when ((et_or (et_test (ev_ne (ev_var rfl dw9) (eo_lst (ea_cons eqm (ea_cons eqm ea_nil)) (show 2 ≤ 10000 by decide)).f rfl rfl (show 1 ≤ 60 by decide))) fun _ => et_not (et_B (ev_isi (b := true) (ev_ixL (ev_var rfl dw9) ev_int (d := .bool (decide (viewM a nm = viewM b nm))) rfl) (show kitB "bool" "bool" = some true by decide +kernel)))).is e1) f8.fh (fun z => nomatch z) fun _ F9 H9 f9 => ?_
        have s89 : Same F5 F9 := fun a o e => f9.ff _ _ (f8.ff _ _ e)
        have e2 : ((!decide (decide (viewM a nm = viewM (viewM a nm) nm) = true)) || !PyData.eqv (hD (viewM (viewM a nm) nm)) (hD (viewM a nm))) = false := by
          rw [viewM_twice, hD_eqv, decide_eq_true (rfl : viewM a nm = viewM a nm)]
          rfl
        refine s_whenE ((et_or (et_test (ev_notBl (ev_look (ev_var rfl (d1'.mono s89)) (ev_var rfl (dw5'.mono s89)) (ev_var rfl (.str nm)) la la') ev_bl)) fun _ => et_test (ev_ne (eo_view (es := viewM a nm) (ev_var rfl (dw5'.mono s89)) (ev_var rfl (.str nm)) la').f (ev_var rfl (dw5'.mono s89)) (hD_plain _) (hD_plain _) (Nat.le_trans (hD_depth _) (by decide)))).is e2) f9.fh (fun z => nomatch z) fun _ F10 H10 f10 => ?_
        have fa := ((f8.trans f9).trans f10).drop
        have fb : Fr M0 F2 H3 F2 H5 := (f4.trans f5).drop
        have fc : Fr M0 F2 H5 F2 H10 := ⟨fun _ _ e => e, fun a o e => fa.hh _ _ (f7.hh _ _ (fb.fh _ _ e) fun z => z) fun z => z, fun a o e n => fa.hh _ _ (f7.hh _ _ e n) n, fun a e => f7.st _ (fa.st _ e), fun _ _ e _ => e⟩
        exact ⟨_, _, _, _, _, _, rfl, (f3.trans fb).trans fc⟩
    · rintro σ' H3 ⟨y4, y5, y6, y7, y8, y9, rfl, f3⟩
      have d1' := d1.mono s12
      have d2' := d2.mono s12
      refine s_ret (ev_eq (d := .list ([a, b].map hD)) (eo_lst (ea_cons (ev_var rfl d1') (ea_cons (ev_var rfl d2') ea_nil)) (show 2 ≤ 10000 by decide)).f (ev_var rfl (dw1.mono f2.ff)) ?_ ?_ ?_) f3.fh fun v F4 H4 f4 dv => ?_
      · show ((hD a).plain && ((hD b).plain && true)) = true
        rw [hD_plain, hD_plain]; rfl
      · show ((hD a).plain && ((hD b).plain && true)) = true
        rw [hD_plain, hD_plain]; rfl
      · have := hD_depth a
        have := hD_depth b
        show max (hD a).depth (max (hD b).depth 0) + 1 ≤ 60
        omega
      · cases dv.blE
        rw [eqv_list hD hD_eqv, decide_eq_true rfl]
        exact q F4 H4 (((f1.trans f2).trans f3).trans f4)

/-! ### the law -/
theorem ev_right {ta tb tc : TE} {σ : L2.St} {F : Hp} {a b : List Exch} {ss : List Str} {E : XK} (ha : EvF ta σ F (hD a)) (hb : EvF tb σ F (hD b)) (hc : EvF tc σ F (.list (ss.map PyData.str))) (la : a.length ≤ 1000) (lb : b.length ≤ 1000) (ls : ss.length ≤ 20) :
    EvF (tCall spRight [] E (tCons ta (tCons tb (tCons tc tNil)))) σ F (.bool true) := fun H s Q q =>
  (ea_cons ha (ea_cons hb (ea_cons hc ea_nil))) H s _ fun vs F2 H2 f2 dvs => by
    cases dvs with
    | cons d1 t => cases t with
      | cons d2 t => cases t with
        | cons d3 t => cases t with
          | nil => exact ⟨F2, _, _, _, a, b, ss, rfl, f2.fh, d1, d2, d3, la, lb, ls, fun F3 H3 f3 => q _ F3 H3 (f2.trans f3) (.bl _)⟩
theorem comp_exch {σ : L2.St} {F H : Hp} {p : Addr} {v1 : V} {ss : List Str} {c : Int} {Q : VK} {E1 E2 : XK} {j n : Nat} (h2 : σ[2]? = some (some (.ref p))) (hn : 1 ≤ n ∧ n ≤ 10) (hw : ∀ x, wipe ((wipe σ [j]).set j (some x)) [j] = wipe σ [j])
    (h2' : ∀ x, ((wipe σ [j]).set j (some x))[2]? = some (some (.ref p))) (h3' : ∀ x, ((wipe σ [j]).set j (some x))[3]? = some (some v1)) (sF : Same F H) (nF : F p = none) (hp : Purse H p c) (d1 : Dq F v1 (.list (ss.map PyData.str))) (l2 : 2 ≤ ss.length) (l10 : ss.length ≤ 10) (hc : c + 222 ≤ 1000000)
    (q : ∀ (es : List Exch) D vs F2 H2 c', es.length ≤ 9 → Fr (fun a => a = p) F H F2 H2 → H D = none → F2 D = none → H2 D = some (.lst vs) → DqAll F2 vs (es.map exD) → Purse H2 p c' → c' ≤ c + 222 → Q (.ref D) H2) :
    tLc (iRng1 (tCons (tCall spDraw [] E1 (tCons (tVar 2) (tCons (tC (.int (n : Int))) tNil))) tNil)) (gName j) tYes (tCall spExchange [] E2 (tCons (tVar 2) (tCons (tVar 3) tNil))) [j] σ H Q := by
  refine ⟨_, h2, p, n, c, rfl, by omega, by omega, hp, by omega, fun r H1 c1 r0 r1 kp st hp1 hc1 hc1' => ⟨r, rfl, by omega, by omega, fun D nD => ?_⟩⟩
  have f1 := Fr.kept sF nF kp st
  have nDF : F D = none := f1.fh.free nD
  have nDH : H D = none := st _ nD
  have npD : p ≠ D := hp1.ne nD
  have sF1 : Same F (upd H1 D (.lst [])) := fun a o e => by rw [upd_ne (ne_of_none e nDF)]; exact f1.fh _ _ e
  refine lc_range (lo := 0) (n := r.toNat) (fun i H' => ∃ (F' : Hp) (vs : List V) (es : List Exch) (c' : Int), Fr (fun a => a = D ∨ a = p) F (upd H1 D (.lst [])) F' H' ∧ H' D = some (.lst vs) ∧ DqAll F' vs (es.map exD) ∧ es.length = i ∧ Purse H' p c' ∧ c' ≤ c1 + 22 * i) ?_ ?_ ?_
  · exact ⟨F, [], [], c1, Fr.refl sF1, upd_same, .nil, rfl, hp1.new nD, by omega⟩
  · rintro i H' hi ⟨F', vs, es, c', fr, eD, dvs, le, hp', hc'⟩
    have nF' : F' p = none := by
      obtain ⟨_, _, e, _⟩ := hp1
      exact fr.nw p _ nF (by rw [upd_ne npD]; exact e)
    have nD' : F' D = none := fr.nw D _ nDF upd_same
    refine ⟨hw _, ?_⟩
    show tCall spExchange [] E2 (tCons (tVar 2) (tCons (tVar 3) tNil)) _ H' _
    refine ⟨_, h2' _, _, h3' _, F', p, v1, ss, c', rfl, fr.fh, nF', hp', d1.mono fr.ff, l2, l10, by omega, fun x y rest word t F2 H2 c2 pm wd f2 dt hp2 hc2 hc2' => ?_⟩
    have eD2 : H2 D = some (.lst vs) := f2.hh _ _ eD npD.symm
    have nD2 : F2 D = none := f2.nw _ _ nD' eD
    have lvs : vs.length ≤ 10 := by
      rw [dvs.length, List.length_map]
      omega
    refine ⟨vs, eD2, Nat.lt_of_le_of_lt lvs (by decide), F2, vs ++ [.ref t], es ++ [(x, y, word)], c2, ?_, upd_same, ?_, by rw [List.length_append, le]; rfl, hp2.keep fun o e => by rw [upd_ne npD]; exact e, by omega⟩
    · exact (fr.trans (f2.mono fun a z => .inr z)).trans (Fr.put f2.fh nD2 (.inl rfl))
    · rw [List.map_append]
      exact (dvs.mono f2.ff).append (.cons dt .nil)
  · rintro H' ⟨F', vs, es, c', fr, eD, dvs, le, hp', hc'⟩
    exact q es D vs F' H' c' (by omega) (f1.trans (fr.unown nD fun a z => z)) nDH (fr.nw D _ nDF upd_same) eD dvs hp' (by omega)
def spLaw (K : PySem.W.Frag) : Sp := fun vs H Q _ => ∃ (a : Addr) (ns : List Int), vs = [.ref a] ∧ SqL K H a (ns.map V.int) ∧ ns.length ≤ 63 ∧ ∀ H', Q (.bl true) H'
theorem ok_law (T : Top K mg) : FnOk P w K mg base CX0 6 T.a_law T.fd_law ["_law_script"] (spLaw K) := by
  refine T.F_law.ok sc_law (fun vs H Q E h => ?_) (fun cdv A outer s H vs Q E hr h => ?_)
  · obtain ⟨_, _, rfl, _⟩ := h
    rfl
  · obtain ⟨a, ns, rfl, hS, hlen, q⟩ := h
    refine ⟨_, (pss_cons (ps_for PassesOwn.never rfl (pi_range1 rfl T.z_range (pa_cons pe_int pa_nil)) (pg_name (i := 1) sc_law.nd rfl (Or.inl rfl)) (pss_cons (ps_set (i := 2) sc_law.nd rfl (Or.inr rfl) (pe_call (ok_law_purse T) (hr.mono (by decide)) (by rfl) T.g_law_purse T.F_law_purse.kp T.b_law_purse .nil pass0 (pa_cons (pv 0) (pa_cons (pv 1) pa_nil))))
 (pss_cons (ps_set (i := 3) sc_law.nd rfl (Or.inr rfl) (pe_call (ok_law_names T) (hr.mono (by decide)) (by rfl) T.g_law_names T.F_law_names.kp T.b_law_names .nil pass0 (pa_cons (pv 2) (pa_cons (pe_op op_add pe_int (pe_call (ok_law_draw T) (hr.mono (by decide)) (by rfl) T.g_law_draw T.F_law_draw.kp T.b_law_draw .nil pass0 (pa_cons (pv 2) (pa_cons pe_int pa_nil)))) pa_nil))))
 (pss_cons (ps_setLc (i := 4) (own := [("_law_k", 7)]) (g := gName 7) (tt := tYes) rfl sc_law.nd rfl rfl (sw_true rfl rfl rfl (by decide +kernel)) (pi_range1 rfl T.z_range (pa_cons (pe_call (ok_law_draw T) (hr.mono (by decide)) (by rfl) T.g_law_draw T.F_law_draw.kp T.b_law_draw .nil pass0 (pa_cons (pv 2) (pa_cons pe_int pa_nil))) pa_nil)) (blkOk_by (own := [("_law_k", 7)]) (N := ["_law_script", "_law_cell", "_law_purse_here", "_law_people", "_law_history", "_law_some", "_law_other", "_law_k"]) (sc := defScope s_law) (by decide +kernel)) (fun _ _ _ _ _ => (pg_name (i := 7) sc_law.nd rfl (Or.inl rfl))) (fun _ _ _ _ _ => pts_nil) (fun _ _ _ _ _ => (pe_call (ok_law_exchange T) (hr.mono (by decide)) (by rfl) T.g_law_exchange T.F_law_exchange.kp T.b_law_exchange .nil pass0 (pa_cons (pv 2) (pa_cons (pv 3) pa_nil)))))
 (pss_cons (ps_set (i := 5) sc_law.nd rfl (Or.inl rfl) (pe_lst (pa_cons (pv 4) (pa_cons (pe_lc (own := [("_law_k", 7)]) (g := gName 7) (tt := tYes) rfl sc_law.nd (pi_range1 rfl T.z_range (pa_cons (pe_call (ok_law_draw T) (hr.mono (by decide)) (by rfl) T.g_law_draw T.F_law_draw.kp T.b_law_draw .nil pass0 (pa_cons (pv 2) (pa_cons pe_int pa_nil))) pa_nil)) (blkOk_by (own := [("_law_k", 7)]) (N := ["_law_script", "_law_cell", "_law_purse_here", "_law_people", "_law_history", "_law_some", "_law_other", "_law_k"]) (sc := defScope s_law) (by decide +kernel)) (fun _ _ _ _ _ => (pg_name (i := 7) sc_law.nd rfl (Or.inl rfl))) (fun _ _ _ _ _ => pts_nil) (fun _ _ _ _ _ => (pe_call (ok_law_exchange T) (hr.mono (by decide)) (by rfl) T.g_law_exchange T.F_law_exchange.kp T.b_law_exchange .nil pass0 (pa_cons (pv 2) (pa_cons (pv 3) pa_nil))))) pa_nil))))
 (pss_one (ps_for PassesOwn.never rfl (pi_listK K rfl (pe_op op_cat (pv 5) (pe_call (ok_law_odd_lists T) (hr.mono (by decide)) (by rfl) T.g_law_odd_lists T.F_law_odd_lists.kp T.b_law_odd_lists .nil pass0 (pa_cons (pv 2) (pa_cons (pv 4) (pa_cons (pv 3) pa_nil)))))) (pg_name (i := 6) sc_law.nd rfl (Or.inl rfl)) (pss_one (ps_if (pt_not (pt_val (pe_call (ok_law_right T) (hr.mono (by decide)) (by rfl) T.g_law_right T.F_law_right.kp T.b_law_right .nil pass0 (pa_cons (pv 4) (pa_cons (pv 6) (pa_cons (pv 3) pa_nil)))))) (pss_one (ps_ret pe_bl)) pss_nil)))))))))
 (pss_one (ps_ret pe_bl))), ?_⟩
    refine s_forR (F := fun _ => none) (ea_cons (d := .int 8) ev_int ea_nil) ⟨by decide, by decide⟩ (fun _ _ e => nomatch e) fun F1 H1 f1 => ?_
    have s1 : Same H H1 := fun a o e => f1.hh _ _ e fun z => z
    refine ⟨fun i σ' H' => ∃ y1 y2 y3 y4 y5 y6, σ' = [some (.ref a), y1, y2, y3, y4, y5, y6, none] ∧ Same H H', ⟨none, none, none, none, none, none, rfl, s1⟩, ?_, ?_⟩
    · rintro i σ' H2 hi ⟨y1, y2, y3, y4, y5, y6, rfl, s2⟩
      refine s_wp ?_
      refine ⟨_, rfl, _, rfl, a, ns, i, rfl, s2.seq hS, by omega, by omega, fun p H3 np s3 hp => ?_⟩
      refine s_wp ?_
      refine ⟨_, rfl, _, rfl, p, 5, 1000 * (i : Int), rfl, by decide, by decide, hp, by omega, fun r H4 c4 r0 r1 kp4 st4 hp4 hc4 hc4' => ?_⟩
      obtain ⟨j, rfl⟩ := Int.eq_ofNat_of_zero_le r0
      refine ⟨2, j, rfl, rfl, p, 2 + j, c4, rfl, hp4, by omega, fun L g H5 c5 pm kp5 st5 ng eg hp5 hc5 hc5' => ?_⟩
      have hL : (L.take (2 + j)).length = 2 + j := by
        rw [List.length_take, pm.length_eq]
        show min (2 + j) 10 = 2 + j
        omega
      generalize hss : L.take (2 + j) = ss at eg hL
      have nH3 : ∀ x, H5 x = none → H2 x = none := fun x e => by
        have e3 := st4 _ (st5 _ e)
        exact s3.free e3
      have npg : p ≠ g := hp4.ne ng
      have keep : ∀ x o, H2 x = some o → H5 x = some o := fun x o e => by
        have ne : x ≠ p := ne_of_none e np
        exact kp5 _ _ (kp4 _ _ (s3 _ _ e) ne) ne
      have sF : Same (upd (fun _ => none) g (.lst (ss.map V.str))) H5 := fun x o e => by
        by_cases z : x = g
        · rw [z, upd_same] at e; rw [z, ← e]; exact eg
        · rw [upd_ne z] at e; cases e
      have nF : (upd (fun _ => none) g (.lst (ss.map V.str)) : Hp) p = none := by rw [upd_ne npg]
      have dg : Dq (upd (fun _ => none) g (.lst (ss.map V.str))) (.ref g) (.list (ss.map PyData.str)) := .lst upd_same (DqAll.strs _)
      generalize upd (fun _ => none) g (HO.lst (ss.map V.str)) = F5 at sF nF dg
      refine s_wp ?_
      refine comp_exch (n := 10) rfl ⟨by decide, by decide⟩ (fun _ => rfl) (fun _ => rfl) (fun _ => rfl) sF nF hp5 dg (by omega) (by omega) (by omega) fun es D vs F6 H6 c6 le f6 nD nDF eD dvs hp6 hc6 => ?_
      have f6' := f6.take nD eD
      have npD : p ≠ D := hp5.ne nD
      have nF6 : (upd F6 D (.lst vs)) p = none := by
        obtain ⟨_, _, e, _⟩ := hp5
        exact f6'.nw p _ nF e
      have dD : Dq (upd F6 D (.lst vs)) (.ref D) (hD es) := .lst upd_same (dvs.mono fun a o e => by rw [upd_ne (ne_of_none e nDF)]; exact e)
      have dg6 := dg.mono f6'.ff
      generalize upd F6 D (HO.lst vs) = F7 at f6' nF6 dD dg6
      refine s_wp ?_
      refine ⟨_, rfl, ?_⟩
      refine comp_exch (n := 10) rfl ⟨by decide, by decide⟩ (fun _ => rfl) (fun _ => rfl) (fun _ => rfl) f6'.fh nF6 hp6 dg6 (by omega) (by omega) (by omega) fun es2 D2 vs2 F8 H8 c8 le2 f8 nD2 nDF2 eD2 dvs2 hp8 hc8 => ?_
      have f8' := f8.take nD2 eD2
      have dD2 : Dq (upd F8 D2 (.lst vs2)) (.ref D2) (hD es2) := .lst upd_same (dvs2.mono fun a o e => by rw [upd_ne (ne_of_none e nDF2)]; exact e)
      have nF8 : (upd F8 D2 (.lst vs2)) p = none := by
        obtain ⟨_, _, e, _⟩ := hp6
        exact f8'.nw p _ nF6 e
      have dD8 := dD.mono f8'.ff
      have dg8 := dg6.mono f8'.ff
      generalize upd F8 D2 (HO.lst vs2) = F9 at f8' nF8 dD2 dD8 dg8
      refine ⟨(by show 2 ≤ sizeLine; decide), fun so nso => ?_⟩
      have f10 := f8'.trans (Fr.new (M := fun a => a = p) (o := .lst [.ref D, .ref D2]) f8'.fh nso)
      have dso : Dq (upd F9 so (.lst [.ref D, .ref D2])) (.ref so) (.list ([es, es2].map hD)) := by
        have k := (Fr.new (M := fun a => a = p) (o := .lst [.ref D, .ref D2]) f8'.fh nso).ff
        exact .lst upd_same (.cons (dD8.mono k) (.cons (dD2.mono k) .nil))
      have hp10 : Purse (upd H8 so (.lst [.ref D, .ref D2])) p c8 := hp8.new nso
      have nF10 : (upd F9 so (.lst [.ref D, .ref D2])) p = none := by rw [upd_ne (hp8.ne nso)]; exact nF8
      have dD10 := dD.mono f10.ff
      have dg10 := dg6.mono f10.ff
      generalize upd F9 so (HO.lst [.ref D, .ref D2]) = F10 at f10 nF10 dso dD10 dg10
      generalize upd H8 so (HO.lst [.ref D, .ref D2]) = H10 at f10 hp10 ⊢
      obtain ⟨sa, sxs, esr, exs, dxs⟩ := dso.lstE
      cases esr
      refine ⟨_, rfl, _, rfl, _, rfl, _, rfl, F10, p, _, _, es, ss, c8, rfl, f10.fh, nF10, hp10, dD10, by omega, dg10, by omega, by omega, by omega, fun L2 f vf F11 H11 c11 hL2 lL2 f11 nf nfF ef dvf hp11 hc11 => ?_⟩
      have e11 : H11 so = some (.lst sxs) := f11.fh _ _ (f11.ff _ _ exs)
      have lx : sxs.length = 2 := dxs.length
      have lvf : vf.length ≤ 10 := by rw [dvf.length, List.length_map]; exact lL2
      refine ⟨so, f, sxs, vf, rfl, rfl, e11, ef, Nat.le_trans (show sxs.length + vf.length ≤ 12 by omega) (by decide), fun al nal => ?_⟩
      have dall : DqAll F11 (sxs ++ vf) (([es, es2] ++ L2).map hD) := by
        rw [List.map_append]
        exact (dxs.mono f11.ff).append dvf
      have hall : ∀ l ∈ [es, es2] ++ L2, l.length ≤ 1000 := fun l hl => by
        rcases List.mem_append.mp hl with hl | hl
        · simp only [List.mem_cons, List.not_mem_nil, or_false] at hl
          rcases hl with rfl | rfl <;> omega
        · exact Nat.le_trans (hL2 l hl) (by decide)
      generalize [es, es2] ++ L2 = LL at dall hall
      have f12 := f11.trans (Fr.new (M := fun a => a = p) (o := .lst (sxs ++ vf)) f11.fh nal)
      have eal : (upd F11 al (.lst (sxs ++ vf))) al = some (.lst (sxs ++ vf)) := upd_same
      have dal := dall.mono (Fr.new (M := fun a => a = p) (o := .lst (sxs ++ vf)) f11.fh nal).ff
      have dD12 := dD10.mono f12.ff
      have dg12 := dg10.mono f12.ff
      have fall := (f6'.trans f10).trans f12
      generalize upd F11 al (HO.lst (sxs ++ vf)) = F12 at f12 eal dal dD12 dg12 fall
      generalize upd H11 al (HO.lst (sxs ++ vf)) = H12 at f12 fall ⊢
      have sall : Same H H12 := fun x o e => by
        have e2 := s2 _ _ e
        exact fall.hh _ _ (keep _ _ e2) (ne_of_none e2 np)
      refine ⟨al, rfl, ⟨_, SqL.of (fall.fh _ _ eal)⟩, for_list (xs := sxs ++ vf) (fun k σ'' H' => ∃ y6, σ'' = [some (.ref a), some (.int (i : Int)), some (.ref p), some (.ref g), some (.ref D), some (.ref so), y6, none] ∧ Fr M0 F12 H12 F12 H') ?_ ?_ ?_ ?_⟩
      · exact ⟨y6, rfl, Fr.refl fall.fh⟩
      · rintro k σ'' H' _ ⟨_, _, f⟩
        exact SqL.of (f.fh _ _ eal)
      · rintro k x σ'' H' hk ⟨y6', rfl, f13⟩
        obtain ⟨d, hd, dd⟩ := dal.getV hk
        obtain ⟨ot, hm, rfl⟩ := List.mem_map.mp (List.mem_of_getElem? hd)
        refine s_whenE (et_not (et_B (ev_right (ev_var rfl dD12) (ev_var rfl dd) (ev_var rfl dg12) (by omega) (hall ot hm) (by omega)))) f13.fh (fun z => nomatch z) fun _ F14 H14 f14 => ?_
        exact ⟨_, rfl, f13.trans f14.drop⟩
      · rintro σ'' H' ⟨y6', rfl, f13⟩
        exact ⟨_, _, _, _, _, _, rfl, fun x o e => f13.hh _ _ (sall _ _ e) fun z => z⟩
    · rintro σ' H2 ⟨y1, y2, y3, y4, y5, y6, rfl, s2⟩
      exact q H2
end
/-! ### what the top has written -/
theorem all_mk {l : PySem.W.OpenLaw} {w : World} {K : PySem.W.Frag} {h : Heap} {mg : Str → Option Value} {fa : Addr} (X : K.In h) (G : h.Ns mainGlobals mg) (hfa : mg "law" = some (.ref fa))
    {f0 : Addr} {od0 an0 : Option Addr} {sl0 : Array (Option Value)} {oc0 kV0 dc0 pm0 cd0 ct0 : Value}
    (a0 : PySem.W.nsIn K mainGlobals "view" = some (some (.ref f0))) (l0 : K.lookup f0 = some ⟨oc0, od0, .func (PySem.W.fnOf "view" "view" (defArgs s_view) (defBody s_view) (defScope s_view) .none kV0 dc0 pm0 an0 cd0 ct0), sl0⟩) (c0 : PySem.W.codeIn K cd0 "view" = true) (k0 : PySem.W.keepIn K (.ref f0) = true)
    {f1 : Addr} {od1 an1 : Option Addr} {sl1 : Array (Option Value)} {oc1 kV1 dc1 pm1 cd1 ct1 : Value}
    (a1 : PySem.W.nsIn K mainGlobals "look_alike" = some (some (.ref f1))) (l1 : K.lookup f1 = some ⟨oc1, od1, .func (PySem.W.fnOf "look_alike" "look_alike" (defArgs s_look_alike) (defBody s_look_alike) (defScope s_look_alike) .none kV1 dc1 pm1 an1 cd1 ct1), sl1⟩) (c1 : PySem.W.codeIn K cd1 "look_alike" = true) (k1 : PySem.W.keepIn K (.ref f1) = true)
    {f2 : Addr} {od2 an2 : Option Addr} {sl2 : Array (Option Value)} {oc2 kV2 dc2 pm2 cd2 ct2 : Value}
    (a2 : PySem.W.nsIn K mainGlobals "_law_at" = some (some (.ref f2))) (l2 : K.lookup f2 = some ⟨oc2, od2, .func (PySem.W.fnOf "_law_at" "_law_at" (defArgs s_law_at) (defBody s_law_at) (defScope s_law_at) .none kV2 dc2 pm2 an2 cd2 ct2), sl2⟩) (c2 : PySem.W.codeIn K cd2 "_law_at" = true) (k2 : PySem.W.keepIn K (.ref f2) = true)
    {f3 : Addr} {od3 an3 : Option Addr} {sl3 : Array (Option Value)} {oc3 kV3 dc3 pm3 cd3 ct3 : Value}
    (a3 : PySem.W.nsIn K mainGlobals "_law_mixed" = some (some (.ref f3))) (l3 : K.lookup f3 = some ⟨oc3, od3, .func (PySem.W.fnOf "_law_mixed" "_law_mixed" (defArgs s_law_mixed) (defBody s_law_mixed) (defScope s_law_mixed) .none kV3 dc3 pm3 an3 cd3 ct3), sl3⟩) (c3 : PySem.W.codeIn K cd3 "_law_mixed" = true) (k3 : PySem.W.keepIn K (.ref f3) = true)
    {f4 : Addr} {od4 an4 : Option Addr} {sl4 : Array (Option Value)} {oc4 kV4 dc4 pm4 cd4 ct4 : Value}
    (a4 : PySem.W.nsIn K mainGlobals "_law_purse" = some (some (.ref f4))) (l4 : K.lookup f4 = some ⟨oc4, od4, .func (PySem.W.fnOf "_law_purse" "_law_purse" (defArgs s_law_purse) (defBody s_law_purse) (defScope s_law_purse) .none kV4 dc4 pm4 an4 cd4 ct4), sl4⟩) (c4 : PySem.W.codeIn K cd4 "_law_purse" = true) (k4 : PySem.W.keepIn K (.ref f4) = true)
    {f5 : Addr} {od5 an5 : Option Addr} {sl5 : Array (Option Value)} {oc5 kV5 dc5 pm5 cd5 ct5 : Value}
    (a5 : PySem.W.nsIn K mainGlobals "_law_draw" = some (some (.ref f5))) (l5 : K.lookup f5 = some ⟨oc5, od5, .func (PySem.W.fnOf "_law_draw" "_law_draw" (defArgs s_law_draw) (defBody s_law_draw) (defScope s_law_draw) .none kV5 dc5 pm5 an5 cd5 ct5), sl5⟩) (c5 : PySem.W.codeIn K cd5 "_law_draw" = true) (k5 : PySem.W.keepIn K (.ref f5) = true)
    {f6 : Addr} {od6 an6 : Option Addr} {sl6 : Array (Option Value)} {oc6 kV6 dc6 pm6 cd6 ct6 : Value}
    (a6 : PySem.W.nsIn K mainGlobals "_law_order" = some (some (.ref f6))) (l6 : K.lookup f6 = some ⟨oc6, od6, .func (PySem.W.fnOf "_law_order" "_law_order" (defArgs s_law_order) (defBody s_law_order) (defScope s_law_order) .none kV6 dc6 pm6 an6 cd6 ct6), sl6⟩) (c6 : PySem.W.codeIn K cd6 "_law_order" = true) (k6 : PySem.W.keepIn K (.ref f6) = true)
    {f7 : Addr} {od7 an7 : Option Addr} {sl7 : Array (Option Value)} {oc7 kV7 dc7 pm7 cd7 ct7 : Value}
    (a7 : PySem.W.nsIn K mainGlobals "_law_names" = some (some (.ref f7))) (l7 : K.lookup f7 = some ⟨oc7, od7, .func (PySem.W.fnOf "_law_names" "_law_names" (defArgs s_law_names) (defBody s_law_names) (defScope s_law_names) .none kV7 dc7 pm7 an7 cd7 ct7), sl7⟩) (c7 : PySem.W.codeIn K cd7 "_law_names" = true) (k7 : PySem.W.keepIn K (.ref f7) = true)
    {f8 : Addr} {od8 an8 : Option Addr} {sl8 : Array (Option Value)} {oc8 kV8 dc8 pm8 cd8 ct8 : Value}
    (a8 : PySem.W.nsIn K mainGlobals "_law_odd_lists" = some (some (.ref f8))) (l8 : K.lookup f8 = some ⟨oc8, od8, .func (PySem.W.fnOf "_law_odd_lists" "_law_odd_lists" (defArgs s_law_odd_lists) (defBody s_law_odd_lists) (defScope s_law_odd_lists) .none kV8 dc8 pm8 an8 cd8 ct8), sl8⟩) (c8 : PySem.W.codeIn K cd8 "_law_odd_lists" = true) (k8 : PySem.W.keepIn K (.ref f8) = true)
    {f9 : Addr} {od9 an9 : Option Addr} {sl9 : Array (Option Value)} {oc9 kV9 dc9 pm9 cd9 ct9 : Value}
    (a9 : PySem.W.nsIn K mainGlobals "_law_exchange" = some (some (.ref f9))) (l9 : K.lookup f9 = some ⟨oc9, od9, .func (PySem.W.fnOf "_law_exchange" "_law_exchange" (defArgs s_law_exchange) (defBody s_law_exchange) (defScope s_law_exchange) .none kV9 dc9 pm9 an9 cd9 ct9), sl9⟩) (c9 : PySem.W.codeIn K cd9 "_law_exchange" = true) (k9 : PySem.W.keepIn K (.ref f9) = true)
    {f10 : Addr} {od10 an10 : Option Addr} {sl10 : Array (Option Value)} {oc10 kV10 dc10 pm10 cd10 ct10 : Value}
    (a10 : PySem.W.nsIn K mainGlobals "_law_right" = some (some (.ref f10))) (l10 : K.lookup f10 = some ⟨oc10, od10, .func (PySem.W.fnOf "_law_right" "_law_right" (defArgs s_law_right) (defBody s_law_right) (defScope s_law_right) .none kV10 dc10 pm10 an10 cd10 ct10), sl10⟩) (c10 : PySem.W.codeIn K cd10 "_law_right" = true) (k10 : PySem.W.keepIn K (.ref f10) = true)
    {f11 : Addr} {od11 an11 : Option Addr} {sl11 : Array (Option Value)} {oc11 kV11 dc11 pm11 cd11 ct11 : Value}
    (a11 : PySem.W.nsIn K mainGlobals "law" = some (some (.ref f11))) (l11 : K.lookup f11 = some ⟨oc11, od11, .func (PySem.W.fnOf "law" "law" (defArgs s_law) (defBody s_law) (defScope s_law) .none kV11 dc11 pm11 an11 cd11 ct11), sl11⟩) (c11 : PySem.W.codeIn K cd11 "law" = true) (k11 : PySem.W.keepIn K (.ref f11) = true)
    (z0 : PySem.W.nsIn K mainGlobals "bool" = some none)
    (z1 : PySem.W.nsIn K mainGlobals "isinstance" = some none)
    (z2 : PySem.W.nsIn K mainGlobals "len" = some none)
    (z3 : PySem.W.nsIn K mainGlobals "list" = some none)
    (z4 : PySem.W.nsIn K mainGlobals "max" = some none)
    (z5 : PySem.W.nsIn K mainGlobals "range" = some none)
    : ∃ fd : FuncData, (∀ (s : Shared) (v : Value), BindsTo s fd ⟨[v], []⟩ [("_law_script", v)]) ∧ ∀ base : Heap, K.In base → base.Ns mainGlobals mg → FnOk l.prog w K mg base CX0 6 fa fd ["_law_script"] (spLaw K) := by
  have e := hfa.symm.trans (PySem.W.mg_of X G a11)
  cases e
  have F0 := fun_mk (st := s_view) l0 c0 k0
  have b0 := F0.binds (ps := ["history", "hand"]) fun _ _ _ _ _ _ us hl => match us, hl with | [_, _], _ => rfl
  have F1 := fun_mk (st := s_look_alike) l1 c1 k1
  have b1 := F1.binds (ps := ["one", "other", "hand"]) fun _ _ _ _ _ _ us hl => match us, hl with | [_, _, _], _ => rfl
  have F2 := fun_mk (st := s_law_at) l2 c2 k2
  have b2 := F2.binds (ps := ["_law_script", "_law_k"]) fun _ _ _ _ _ _ us hl => match us, hl with | [_, _], _ => rfl
  have F3 := fun_mk (st := s_law_mixed) l3 c3 k3
  have b3 := F3.binds (ps := ["_law_cell", "_law_k"]) fun _ _ _ _ _ _ us hl => match us, hl with | [_, _], _ => rfl
  have F4 := fun_mk (st := s_law_purse) l4 c4 k4
  have b4 := F4.binds (ps := ["_law_script", "_law_at_here"]) fun _ _ _ _ _ _ us hl => match us, hl with | [_, _], _ => rfl
  have F5 := fun_mk (st := s_law_draw) l5 c5 k5
  have b5 := F5.binds (ps := ["_law_purse_here", "_law_out_of"]) fun _ _ _ _ _ _ us hl => match us, hl with | [_, _], _ => rfl
  have F6 := fun_mk (st := s_law_order) l6 c6 k6
  have b6 := F6.binds (ps := ["_law_purse_here", "_law_some"]) fun _ _ _ _ _ _ us hl => match us, hl with | [_, _], _ => rfl
  have F7 := fun_mk (st := s_law_names) l7 c7 k7
  have b7 := F7.binds (ps := ["_law_purse_here", "_law_many"]) fun _ _ _ _ _ _ us hl => match us, hl with | [_, _], _ => rfl
  have F8 := fun_mk (st := s_law_odd_lists) l8 c8 k8
  have b8 := F8.binds (ps := ["_law_purse_here", "_law_history", "_law_people"]) fun _ _ _ _ _ _ us hl => match us, hl with | [_, _, _], _ => rfl
  have F9 := fun_mk (st := s_law_exchange) l9 c9 k9
  have b9 := F9.binds (ps := ["_law_purse_here", "_law_people"]) fun _ _ _ _ _ _ us hl => match us, hl with | [_, _], _ => rfl
  have F10 := fun_mk (st := s_law_right) l10 c10 k10
  have b10 := F10.binds (ps := ["_law_one", "_law_other", "_law_people"]) fun _ _ _ _ _ _ us hl => match us, hl with | [_, _, _], _ => rfl
  have F11 := fun_mk (st := s_law) l11 c11 k11
  have b11 := F11.binds (ps := ["_law_script"]) fun _ _ _ _ _ _ us hl => match us, hl with | [_], _ => rfl
  have T : Top K mg := ⟨_, _, F0, b0, PySem.W.mg_of X G a0, _, _, F1, b1, PySem.W.mg_of X G a1, _, _, F2, b2, PySem.W.mg_of X G a2, _, _, F3, b3, PySem.W.mg_of X G a3, _, _, F4, b4, PySem.W.mg_of X G a4, _, _, F5, b5, PySem.W.mg_of X G a5, _, _, F6, b6, PySem.W.mg_of X G a6, _, _, F7, b7, PySem.W.mg_of X G a7, _, _, F8, b8, PySem.W.mg_of X G a8, _, _, F9, b9, PySem.W.mg_of X G a9, _, _, F10, b10, PySem.W.mg_of X G a10, _, _, F11, b11, PySem.W.mg_of X G a11, PySem.W.mg_none_of X G z0, PySem.W.mg_none_of X G z1, PySem.W.mg_none_of X G z2, PySem.W.mg_none_of X G z3, PySem.W.mg_none_of X G z4, PySem.W.mg_none_of X G z5⟩
  exact ⟨PySem.W.fnOf "law" "law" (defArgs s_law) (defBody s_law) (defScope s_law) .none kV11 dc11 pm11 an11 cd11 ct11, fun s v => .of_eq rfl, fun base _ _ => ok_law ⟨_, _, F0, b0, PySem.W.mg_of X G a0, _, _, F1, b1, PySem.W.mg_of X G a1, _, _, F2, b2, PySem.W.mg_of X G a2, _, _, F3, b3, PySem.W.mg_of X G a3, _, _, F4, b4, PySem.W.mg_of X G a4, _, _, F5, b5, PySem.W.mg_of X G a5, _, _, F6, b6, PySem.W.mg_of X G a6, _, _, F7, b7, PySem.W.mg_of X G a7, _, _, F8, b8, PySem.W.mg_of X G a8, _, _, F9, b9, PySem.W.mg_of X G a9, _, _, F10, b10, PySem.W.mg_of X G a10, _, _, F11, b11, PySem.W.mg_of X G a11, PySem.W.mg_none_of X G z0, PySem.W.mg_none_of X G z1, PySem.W.mg_none_of X G z2, PySem.W.mg_none_of X G z3, PySem.W.mg_none_of X G z4, PySem.W.mg_none_of X G z5⟩⟩
end K18
open PySem PySem.W PyProof.Rows
set_option maxRecDepth 100000 in
set_option maxHeartbeats 0 in
theorem PySem.Challenge.cw_talkwatch_k18_views_holds : PySem.Challenge.rw_talkwatch_k18_views.Holds := by
  w_on; o_law; k_head; (case hw => w_witness2)
  k_fill
  refine L2.walk_of (l := PySem.Challenge.rw_talkwatch_k18_views) (n := 63) (k := 6) (x := "_law_script") (CX := fun _ => L2.CX0) (sp := fun w => K18.spLaw _) rfl (by decide) rfl ⟨rfl, by decide, by decide⟩ (fun w h Y => PySem.W.kIn_of Y) ?F (fun _ _ a ns hl _ hS => ⟨a, ns, rfl, hS, hl, fun _ => rfl⟩) (fun _ _ _ _ _ h => h)
  case F =>
    intro w mg fa h KX G hmg
    refine' K18.all_mk KX G hmg ?a0 ?l0 ?c0 ?k0 ?a1 ?l1 ?c1 ?k1 ?a2 ?l2 ?c2 ?k2 ?a3 ?l3 ?c3 ?k3 ?a4 ?l4 ?c4 ?k4 ?a5 ?l5 ?c5 ?k5 ?a6 ?l6 ?c6 ?k6 ?a7 ?l7 ?c7 ?k7 ?a8 ?l8 ?c8 ?k8 ?a9 ?l9 ?c9 ?k9 ?a10 ?l10 ?c10 ?k10 ?a11 ?l11 ?c11 ?k11 ?z0 ?z1 ?z2 ?z3 ?z4 ?z5
    (case a0 => k_is)
    (case l0 => k_is)
    (case c0 => k_is)
    (case k0 => k_is)
    (case a1 => k_is)
    (case l1 => k_is)
    (case c1 => k_is)
    (case k1 => k_is)
    (case a2 => k_is)
    (case l2 => k_is)
    (case c2 => k_is)
    (case k2 => k_is)
    (case a3 => k_is)
    (case l3 => k_is)
    (case c3 => k_is)
    (case k3 => k_is)
    (case a4 => k_is)
    (case l4 => k_is)
    (case c4 => k_is)
    (case k4 => k_is)
    (case a5 => k_is)
    (case l5 => k_is)
    (case c5 => k_is)
    (case k5 => k_is)
    (case a6 => k_is)
    (case l6 => k_is)
    (case c6 => k_is)
    (case k6 => k_is)
    (case a7 => k_is)
    (case l7 => k_is)
    (case c7 => k_is)
    (case k7 => k_is)
    (case a8 => k_is)
    (case l8 => k_is)
    (case c8 => k_is)
    (case k8 => k_is)
    (case a9 => k_is)
    (case l9 => k_is)
    (case c9 => k_is)
    (case k9 => k_is)
    (case a10 => k_is)
    (case l10 => k_is)
    (case c10 => k_is)
    (case k10 => k_is)
    (case a11 => k_is)
    (case l11 => k_is)
    (case c11 => k_is)
    (case k11 => k_is)
    (case z0 => k_is)
    (case z1 => k_is)
    (case z2 => k_is)
    (case z3 => k_is)
    (case z4 => k_is)
    (case z5 => k_is)
