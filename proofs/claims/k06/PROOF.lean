import PyProof.Rows.All
import Wide.All
import OpenK.AllK
import Wide.FinOn
import HandS.ForMost
import HandS.Deep
import HandS.Style
import HandS.Wide
import HandS.WideBits
import HandS.IsInst
import KE.DataEq
import HandS.Exc
import HandS.ExcInit
import HandS.ExcField
import HandS.Defaults
import HandS.ExcBuiltin
import HandS.TupAny
import HandS.Walk
import KE.KExcInit
import KE.KExcIs
import HandS.SetBool
import HandS.SetKeys
import HandS.Set
import KE.SortData
import KE.DataMinMax
import KE.GoesSet
import PySem.Challenge.RW_talkwatch_k06_same_and_first
set_option Elab.async false
set_option linter.all false
set_option maxRecDepth 100000
set_option maxHeartbeats 4000000
/-! Ly: data in an abstract heap (Dq), a frozen part within a heap (Fr), what an expression evaluates to as data (EvF, EvO, EvT, EvA). -/
namespace Ly
open PySem PySem.Spec PyProof.Rows L2

/-! ### data -/
def keyD : Key → PyData
  | .inl i => .int i
  | .inr s => .str s
mutual
inductive Dq (H : Hp) : V → PyData → Prop
  | non : Dq H .non .none
  | bl (b : Bool) : Dq H (.bl b) (.bool b)
  | int (i : Int) : Dq H (.int i) (.int i)
  | str (x : Str) : Dq H (.str x) (.str x)
  | lst {a : Addr} {xs : List V} {ds : List PyData} : H a = some (.lst xs) → DqAll H xs ds → Dq H (.ref a) (.list ds)
  | tup {a : Addr} {xs : List V} {ds : List PyData} : H a = some (.tup xs) → DqAll H xs ds → Dq H (.ref a) (.tuple ds)
  | dK {a : Addr} {kvs : List (Key × V)} {ds : List PyData} : H a = some (.dK kvs) → DqAll H (kvs.map (·.2)) ds → Dq H (.ref a) (.dict ((kvs.map fun kv => keyD kv.1).zip ds))
  | dT {a : Addr} {kvs : List (List Key × V)} {ds : List PyData} : H a = some (.dT kvs) → DqAll H (kvs.map (·.2)) ds → Dq H (.ref a) (.dict ((kvs.map fun kv => PyData.tuple (kv.1.map keyD)).zip ds))
inductive DqAll (H : Hp) : List V → List PyData → Prop
  | nil : DqAll H [] []
  | cons {v : V} {vs : List V} {d : PyData} {ds : List PyData} : Dq H v d → DqAll H vs ds → DqAll H (v :: vs) (d :: ds)
end
section
variable {H H' : Hp} {K : PySem.W.Frag}
mutual
theorem Dq.mono (k : ∀ a o, H a = some o → H' a = some o) : ∀ {v : V} {d : PyData}, Dq H v d → Dq H' v d
  | _, _, .non => .non
  | _, _, .bl b => .bl b
  | _, _, .int i => .int i
  | _, _, .str x => .str x
  | _, _, .lst e h => .lst (k _ _ e) (DqAll.mono k h)
  | _, _, .tup e h => .tup (k _ _ e) (DqAll.mono k h)
  | _, _, .dK e h => .dK (k _ _ e) (DqAll.mono k h)
  | _, _, .dT e h => .dT (k _ _ e) (DqAll.mono k h)
theorem DqAll.mono (k : ∀ a o, H a = some o → H' a = some o) : ∀ {vs : List V} {ds : List PyData}, DqAll H vs ds → DqAll H' vs ds
  | _, _, .nil => .nil
  | _, _, .cons h t => .cons (Dq.mono k h) (DqAll.mono k t)
end
mutual
theorem Dq.dp : ∀ {v : V} {d : PyData}, Dq H v d → d.plain = true → Dp K H v d
  | _, _, .non, _ => .non
  | _, _, .bl b, _ => .bl b
  | _, _, .int i, _ => .int i
  | _, _, .str x, _ => .str x
  | _, _, .lst e h, p => .lst (SqL.of e) (DqAll.dp h (by simpa only [PyData.plain] using p))
  | _, _, .tup e h, p => .tup (SqT.of e) (DqAll.dp h (by simpa only [PyData.plain] using p))
  | _, _, .dK e h, p => by simp only [PyData.plain] at p; cases p
  | _, _, .dT e h, p => by simp only [PyData.plain] at p; cases p
theorem DqAll.dp : ∀ {vs : List V} {ds : List PyData}, DqAll H vs ds → PyData.plainAll ds = true → DpAll K H vs ds
  | _, _, .nil, _ => .nil
  | _, _, .cons h t, p => by
    simp only [PyData.plainAll, Bool.and_eq_true] at p
    exact .cons (Dq.dp h p.1) (DqAll.dp t p.2)
end
theorem DqAll.length : ∀ {vs : List V} {ds : List PyData}, DqAll H vs ds → vs.length = ds.length
  | _, _, .nil => rfl
  | _, _, .cons _ t => by rw [List.length_cons, List.length_cons, DqAll.length t]
theorem DqAll.get : ∀ {vs : List V} {ds : List PyData} {i : Nat} {d : PyData}, DqAll H vs ds → ds[i]? = some d → ∃ v, vs[i]? = some v ∧ Dq H v d
  | _, _, _, _, .nil, e => by simp at e
  | _, _, 0, _, .cons h _, e => by simp at e; subst e; exact ⟨_, rfl, h⟩
  | _, _, i + 1, _, .cons _ t, e => by simpa using DqAll.get (i := i) t (by simpa using e)
theorem DqAll.getV : ∀ {vs : List V} {ds : List PyData} {i : Nat} {v : V}, DqAll H vs ds → vs[i]? = some v → ∃ d, ds[i]? = some d ∧ Dq H v d
  | _, _, _, _, .nil, e => by simp at e
  | _, _, 0, _, .cons h _, e => by simp at e; subst e; exact ⟨_, rfl, h⟩
  | _, _, i + 1, _, .cons _ t, e => by simpa using DqAll.getV (i := i) t (by simpa using e)
theorem DqAll.append : ∀ {vs ws : List V} {ds es : List PyData}, DqAll H vs ds → DqAll H ws es → DqAll H (vs ++ ws) (ds ++ es)
  | _, _, _, _, .nil, s => s
  | _, _, _, _, .cons h t, s => .cons h (DqAll.append t s)
theorem DqAll.take : ∀ {vs : List V} {ds : List PyData} (n : Nat), DqAll H vs ds → DqAll H (vs.take n) (ds.take n)
  | _, _, 0, _ => .nil
  | _, _, _ + 1, .nil => .nil
  | _, _, n + 1, .cons h t => .cons h (DqAll.take n t)
theorem DqAll.drop : ∀ {vs : List V} {ds : List PyData} (n : Nat), DqAll H vs ds → DqAll H (vs.drop n) (ds.drop n)
  | _, _, 0, r => r
  | _, _, _ + 1, .nil => .nil
  | _, _, n + 1, .cons _ t => DqAll.drop n t
theorem DqAll.reverse : ∀ {vs : List V} {ds : List PyData}, DqAll H vs ds → DqAll H vs.reverse ds.reverse
  | _, _, .nil => .nil
  | _, _, .cons h t => by
    rw [List.reverse_cons, List.reverse_cons]
    exact DqAll.append (DqAll.reverse t) (.cons h .nil)
theorem DqAll.eraseIdx : ∀ {vs : List V} {ds : List PyData} (i : Nat), DqAll H vs ds → DqAll H (vs.eraseIdx i) (ds.eraseIdx i)
  | _, _, _, .nil => .nil
  | _, _, 0, .cons _ t => t
  | _, _, i + 1, .cons h t => .cons h (DqAll.eraseIdx i t)
theorem Dq.intE {v : V} {i : Int} (h : Dq H v (.int i)) : v = .int i := by cases h; rfl
theorem Dq.blE {v : V} {b : Bool} (h : Dq H v (.bool b)) : v = .bl b := by cases h; rfl
theorem Dq.strE {v : V} {b : Str} (h : Dq H v (.str b)) : v = .str b := by cases h; rfl
theorem Dq.lstE {v : V} {ds : List PyData} (h : Dq H v (.list ds)) : ∃ a xs, v = .ref a ∧ H a = some (.lst xs) ∧ DqAll H xs ds := by cases h with | lst e h => exact ⟨_, _, rfl, e, h⟩
theorem Dq.tupE {v : V} {ds : List PyData} (h : Dq H v (.tuple ds)) : ∃ a xs, v = .ref a ∧ H a = some (.tup xs) ∧ DqAll H xs ds := by cases h with | tup e h => exact ⟨_, _, rfl, e, h⟩
theorem DqAll.strs : ∀ (ss : List Str), DqAll H (ss.map V.str) (ss.map PyData.str)
  | [] => .nil
  | s :: ss => .cons (.str s) (DqAll.strs ss)
theorem DqAll.strsE : ∀ {vs : List V} {ss : List Str}, DqAll H vs (ss.map PyData.str) → vs = ss.map V.str
  | _, [], h => by cases h; rfl
  | _, s :: ss, h => by
    cases h with
    | cons h t => rw [h.strE, DqAll.strsE t]; rfl
end

/-! ### a frozen part F of a heap H, grown to F2 within H2; what stands at M may have changed -/
structure Fr (M : Addr → Prop) (F H F2 H2 : Hp) : Prop where
  ff : Same F F2
  fh : Same F2 H2
  hh : ∀ a o, H a = some o → ¬ M a → H2 a = some o
  st : ∀ a, H2 a = none → H a = none
  nw : ∀ a o, F a = none → H a = some o → F2 a = none
abbrev M0 : Addr → Prop := fun _ => False
section
variable {M N : Addr → Prop} {F H F1 H1 F2 H2 : Hp} {p : Addr} {o o' : HO}
theorem Fr.refl (s : Same F H) : Fr M F H F H := ⟨fun _ _ h => h, s, fun _ _ h _ => h, fun _ h => h, fun _ _ h _ => h⟩
theorem Fr.trans (a : Fr M F H F1 H1) (b : Fr M F1 H1 F2 H2) : Fr M F H F2 H2 where
  ff := fun x o h => b.ff x o (a.ff x o h)
  fh := b.fh
  hh := fun x o h n => b.hh x o (a.hh x o h n) n
  st := fun x h => a.st x (b.st x h)
  nw := fun x o h1 h2 => by
    have n1 := a.nw x o h1 h2
    cases e : H1 x with
    | none => rw [a.st x e] at h2; cases h2
    | some u => exact b.nw x u n1 e
theorem Fr.mono (a : Fr M F H F1 H1) (h : ∀ x, M x → N x) : Fr N F H F1 H1 := ⟨a.ff, a.fh, fun x o e n => a.hh x o e fun z => n (h x z), a.st, a.nw⟩
theorem Fr.up (a : Fr M0 F H F1 H1) : Fr N F H F1 H1 := a.mono fun _ z => z.elim
theorem Fr.new (s : Same F H) (n : H p = none) : Fr M F H (upd F p o) (upd H p o) := by
  have nf : F p = none := s.free n
  refine ⟨fun a u e => ?_, fun a u e => ?_, fun a u e _ => ?_, fun a e => ?_, fun a u e1 e2 => ?_⟩
  · rw [upd_ne (ne_of_none e nf)]; exact e
  · by_cases h : a = p
    · subst h; rw [upd_same] at e ⊢; exact e
    · rw [upd_ne h] at e ⊢; exact s _ _ e
  · rw [upd_ne (ne_of_none e n)]; exact e
  · by_cases h : a = p
    · subst h; exact n
    · rw [upd_ne h] at e; exact e
  · rw [upd_ne (ne_of_none e2 n)]; exact e1
/-- a new object that isn't frozen -/
theorem Fr.own (s : Same F H) (n : H p = none) : Fr M F H F (upd H p o) := by
  refine ⟨fun a u e => e, fun a u e => ?_, fun a u e _ => ?_, fun a e => ?_, fun a u e1 _ => e1⟩
  · rw [upd_ne (ne_of_none (s _ _ e) n)]; exact s _ _ e
  · rw [upd_ne (ne_of_none e n)]; exact e
  · by_cases h : a = p
    · subst h; exact n
    · rw [upd_ne h] at e; exact e
/-- an object that isn't frozen is changed -/
theorem Fr.put (s : Same F H) (nf : F p = none) (m : M p) : Fr M F H F (upd H p o) := by
  refine ⟨fun a u e => e, fun a u e => ?_, fun a u e h => ?_, fun a e => ?_, fun a u e1 _ => e1⟩
  · rw [upd_ne (ne_of_none e nf)]; exact s _ _ e
  · rw [upd_ne (fun z => h (by rw [z]; exact m))]; exact e
  · by_cases h : a = p
    · subst h; rw [upd_same] at e; cases e
    · rw [upd_ne h] at e; exact e
/-- what was new is frozen -/
theorem Fr.take (a : Fr M F H F2 H2) (n : H p = none) (h : H2 p = some o) : Fr M F H (upd F2 p o) H2 := by
  refine ⟨fun x u e => ?_, fun x u e => ?_, a.hh, a.st, fun x u e1 e2 => ?_⟩
  · by_cases q : x = p
    · subst q
      rw [a.fh _ _ (a.ff _ _ e)] at h
      rw [upd_same]; exact h.symm
    · rw [upd_ne q]; exact a.ff _ _ e
  · by_cases q : x = p
    · subst q; rw [upd_same] at e; rw [← e]; exact h
    · rw [upd_ne q] at e; exact a.fh _ _ e
  · rw [upd_ne (ne_of_none e2 n)]; exact a.nw _ _ e1 e2
theorem Fr.same (a : Fr M F H F2 H2) : Same F F2 := a.ff
theorem Fr.inn (a : Fr M F H F2 H2) : Same F2 H2 := a.fh
end

/-! ### what expressions evaluate to -/
def EvF (te : TE) (σ : L2.St) (F : Hp) (d : PyData) : Prop := ∀ H, Same F H → ∀ Q : VK, (∀ v F2 H2, Fr M0 F H F2 H2 → Dq F2 v d → Q v H2) → te σ H Q
/-- a new list, not yet frozen -/
def EvO (te : TE) (σ : L2.St) (F : Hp) (ds : List PyData) : Prop := ∀ H, Same F H → ∀ Q : VK, (∀ p vs F2 H2, Fr M0 F H F2 H2 → H p = none → F2 p = none → H2 p = some (.lst vs) → DqAll F2 vs ds → Q (.ref p) H2) → te σ H Q
def EvT (tt : TT) (σ : L2.St) (F : Hp) (b : Bool) : Prop := ∀ H, Same F H → ∀ Q : Bool → Hp → Prop, (∀ F2 H2, Fr M0 F H F2 H2 → Q b H2) → tt σ H Q
def EvA (ta : TA) (σ : L2.St) (F : Hp) (ds : List PyData) : Prop := ∀ H, Same F H → ∀ Q : List V → Hp → Prop, (∀ vs F2 H2, Fr M0 F H F2 H2 → DqAll F2 vs ds → Q vs H2) → ta σ H Q
def EvI (to : TO) (σ : L2.St) (F : Hp) (o : Option Int) : Prop := ∀ H, Same F H → ∀ Q : Option Int → Hp → Prop, (∀ F2 H2, Fr M0 F H F2 H2 → Q o H2) → to σ H Q

section
variable {K : PySem.W.Frag} {σ : L2.St} {F F1 H : Hp} {ta tb te tx : TE} {t u : TT} {d e : PyData} {ds es : List PyData} {v : V}
theorem EvF.mono (k : Same F F1) (h : EvF te σ F d) : EvF te σ F1 d := fun H s Q q => h H (fun a o e => s a o (k a o e)) Q fun v F2 H2 fr dv => by
  have fr' : Fr M0 F1 H (fun a => match F1 a with | some o => some o | none => F2 a) H2 := by
    refine ⟨fun a o e => ?_, fun a o e => ?_, fr.hh, fr.st, fun a o e1 e2 => ?_⟩
    · show (match F1 a with | some o => some o | none => F2 a) = some o
      rw [e]
    · have e : (match F1 a with | some o => some o | none => F2 a) = some o := e
      cases z : F1 a with
      | some u => rw [z] at e; exact fr.hh _ _ (s _ _ (z.trans e)) fun z => z
      | none => rw [z] at e; exact fr.fh _ _ e
    · show (match F1 a with | some o => some o | none => F2 a) = none
      rw [e1]
      refine fr.nw a o ?_ e2
      cases z : F a with
      | none => rfl
      | some u => rw [k _ _ z] at e1; cases e1
  refine q v _ H2 fr' (dv.mono fun a o e => ?_)
  show (match F1 a with | some o => some o | none => F2 a) = some o
  cases z : F1 a with
  | none => exact e
  | some u =>
    show some u = some o
    have h1 := fr.fh _ _ e
    rw [fr.hh _ _ (s _ _ z) fun z => z] at h1
    exact h1
theorem ev_var {i : Nat} (h : σ[i]? = some (some v)) (hv : Dq F v d) : EvF (tVar i) σ F d := fun H s Q q => ⟨v, h, q v F H (Fr.refl s) hv⟩
theorem ev_c (hv : ∀ F, Dq F v d) : EvF (tC v) σ F d := fun H s Q q => q v F H (Fr.refl s) (hv _)
theorem ev_int {i : Int} : EvF (tC (.int i)) σ F (.int i) := ev_c fun _ => .int i
theorem ev_bl {i : Bool} : EvF (tC (.bl i)) σ F (.bool i) := ev_c fun _ => .bl i
theorem ev_str {i : Str} : EvF (tC (.str i)) σ F (.str i) := ev_c fun _ => .str i
theorem ev_non : EvF (tC .non) σ F .none := ev_c fun _ => .non
theorem EvO.f (h : EvO te σ F ds) : EvF te σ F (.list ds) := fun H s Q q => h H s Q fun p vs F2 H2 fr np nf hp dv =>
  q _ (upd F2 p (.lst vs)) H2 (fr.take np hp) (.lst upd_same (dv.mono fun a o e => by rw [upd_ne (ne_of_none e nf)]; exact e))
/-- a two-place operation -/
theorem ev_op {r : R2} {z : PyData} (ha : EvF ta σ F d) (hb : ∀ F1, Same F F1 → EvF tb σ F1 e)
    (hr : ∀ x y F1 H1 (Q : VK), Same F1 H1 → Dq F1 x d → Dq F1 y e → (∀ v F2 H2, Fr M0 F1 H1 F2 H2 → Dq F2 v z → Q v H2) → r x y H1 Q) : EvF (tOp r ta tb) σ F z := fun H s Q q =>
  ha H s _ fun x F1 H1 fr1 dx => hb F1 fr1.ff H1 fr1.fh _ fun y F2 H2 fr2 dy => hr x y F2 H2 Q fr2.fh (dx.mono fr2.ff) dy fun v F3 H3 fr3 dv => q v F3 H3 ((fr1.trans fr2).trans fr3) dv
theorem ev_I0 {g : Int → Int → V} {i j : Int} {z : PyData} (ha : EvF ta σ F (.int i)) (hb : EvF tb σ F (.int j)) (hz : ∀ F, Dq F (g i j) z) : EvF (tOp (rI0 g) ta tb) σ F z :=
  ev_op ha (fun _ k => hb.mono k) fun x y F1 H1 Q s dx dy q => ⟨i, j, dx.intE, dy.intE, q _ F1 H1 (Fr.refl s) (hz _)⟩
theorem ev_I {C : Int → Int → Prop} {g : Int → Int → V} {i j : Int} {z : PyData} (ha : EvF ta σ F (.int i)) (hb : EvF tb σ F (.int j)) (hc : C i j) (hz : ∀ F, Dq F (g i j) z) : EvF (tOp (rI C g) ta tb) σ F z :=
  ev_op ha (fun _ k => hb.mono k) fun x y F1 H1 Q s dx dy q => ⟨i, j, dx.intE, dy.intE, hc, q _ F1 H1 (Fr.refl s) (hz _)⟩
end

/-! ### operators over data of any depth -/
section
variable {X : Cx}
def rEqQ : R2 := fun x y H Q => ∃ d e, Dq H x d ∧ Dq H y e ∧ d.plain = true ∧ e.plain = true ∧ d.depth ≤ 60 ∧ Q (.bl (PyData.eqv d e)) H
def rNeQ : R2 := fun x y H Q => ∃ d e, Dq H x d ∧ Dq H y e ∧ d.plain = true ∧ e.plain = true ∧ d.depth ≤ 60 ∧ Q (.bl (!PyData.eqv d e)) H
theorem op_eqQ (hu : X.A.units + 64 < cLine) : OpR X (compareOp .Eq) rEqQ := by
  intro pins s σ H x y v u Q I rx ry h
  obtain ⟨d, e, hd, he, sd, se, dp, q⟩ := h
  obtain ⟨as, r1⟩ := Dp.reads I d x v (hd.dp sd) rx
  obtain ⟨bs, r2⟩ := Dp.reads I e y u (he.dp se) ry
  exact SeqAt.eq_plain r1 r2 sd se (Nat.lt_of_le_of_lt (Nat.add_le_add_left (Nat.le_trans (Nat.min_le_left _ _) (Nat.le_trans dp (by decide))) _) hu) ⟨.bl _, H, I, rfl, q⟩
theorem op_neQ (hu : X.A.units + 64 < cLine) : OpR X (compareOp .NotEq) rNeQ := by
  intro pins s σ H x y v u Q I rx ry h
  obtain ⟨d, e, hd, he, sd, se, dp, q⟩ := h
  obtain ⟨as, r1⟩ := Dp.reads I d x v (hd.dp sd) rx
  obtain ⟨bs, r2⟩ := Dp.reads I e y u (he.dp se) ry
  exact SeqAt.ne_plain r1 r2 sd se (Nat.lt_of_le_of_lt (Nat.add_le_add_left (Nat.le_trans (Nat.min_le_left _ _) (Nat.le_trans dp (by decide))) _) hu) ⟨.bl _, H, I, rfl, q⟩
/-- x in a list or tuple -/
def rInQ (neg : Bool) : R2 := fun x y H Q => ∃ d ds, Dq H x d ∧ (Dq H y (.list ds) ∨ Dq H y (.tuple ds)) ∧ d.plain = true ∧ PyData.plainAll ds = true ∧ d.depth ≤ 60 ∧ Q (.bl (if neg then !(ds.any fun z => PyData.eqv z d) else ds.any fun z => PyData.eqv z d)) H
theorem in_room {A : Around} {ds : List PyData} {d : PyData} (hu : A.units + 64 < cLine) (h : d.depth ≤ 60) : A.units + 1 + min (PyData.depthAll ds) d.depth < cLine := by
  have := Nat.min_le_right (PyData.depthAll ds) d.depth
  omega
theorem op_inQ (hu : X.A.units + 64 < cLine) : OpR X (compareOp .In) (rInQ false) := by
  intro pins s σ H x y v u Q I rx ry h
  obtain ⟨d, ds, hd, he, sd, se, dp, q⟩ := h
  obtain ⟨as, r1⟩ := Dp.reads I d x v (hd.dp sd) rx
  rcases he with he | he
  · obtain ⟨bs, r2⟩ := Dp.reads I (.list ds) y u (he.dp (by simpa only [PyData.plain] using se)) ry
    exact SeqAt.in_list_data r2 r1 se sd (in_room hu dp) ⟨.bl _, H, I, rfl, q⟩
  · obtain ⟨bs, r2⟩ := Dp.reads I (.tuple ds) y u (he.dp (by simpa only [PyData.plain] using se)) ry
    exact SeqAt.in_tuple_data r2 r1 se sd (in_room hu dp) ⟨.bl _, H, I, rfl, q⟩
theorem op_niQ (hu : X.A.units + 64 < cLine) : OpR X (compareOp .NotIn) (rInQ true) := by
  intro pins s σ H x y v u Q I rx ry h
  obtain ⟨d, ds, hd, he, sd, se, dp, q⟩ := h
  obtain ⟨as, r1⟩ := Dp.reads I d x v (hd.dp sd) rx
  rcases he with he | he
  · obtain ⟨bs, r2⟩ := Dp.reads I (.list ds) y u (he.dp (by simpa only [PyData.plain] using se)) ry
    exact SeqAt.notIn_list_data r2 r1 se sd (in_room hu dp) ⟨.bl _, H, I, rfl, q⟩
  · obtain ⟨bs, r2⟩ := Dp.reads I (.tuple ds) y u (he.dp (by simpa only [PyData.plain] using se)) ry
    exact SeqAt.notIn_tuple_data r2 r1 se sd (in_room hu dp) ⟨.bl _, H, I, rfl, q⟩
/-- len of a list or tuple (script, too) -/
def rLenQ (K : PySem.W.Frag) : List V → Hp → VK → Prop := fun xs H Q => ∃ p ys, xs = [.ref p] ∧ (SqL K H p ys ∨ SqT K H p ys) ∧ Q (.int ys.length) H
theorem call_lenQ : CallR X (.builtin "len") (rLenQ X.K) := call_len_seq
/-- a ** b of middling size -/
def CPowW (i j : Int) : Prop := 0 ≤ j ∧ (Builtin.Int.intBits i : Int) * j ≤ 2 ^ 27
theorem op_powW : OpR X (binaryOp .Pow) (rI CPowW fun i j => .int (i ^ j.toNat)) := opI fun _ _ _ _ _ _ _ hc q => pow_int hc.1 hc.2 q
end
/-! ### the rules with K told (within a comprehension's block the context is another, K the same) -/
section
variable {X : Cx} {te to : TE} {t : TA} {e o : Expr} {es : List Expr} {T id : String} {name : Str} {r : V → List V → Hp → VK → Prop}
theorem ix_seqK (K : PySem.W.Frag) (h : X.K = K) : IxR X (rIx K) := by subst h; exact ix_seq
theorem sl_listK (K : PySem.W.Frag) (h : X.K = K) : SlR X (rSlL K) := by subst h; exact sl_list
theorem sl_tupK (K : PySem.W.Frag) (h : X.K = K) : SlR X (rSlT K) := by subst h; exact sl_tup
theorem call_lenK (K : PySem.W.Frag) (h : X.K = K) : CallR X (.builtin "len") (rLenQ K) := by subst h; exact call_lenQ
def rListOf (K : PySem.W.Frag) : List V → Hp → VK → Prop := fun xs H Q => ∃ p ys, xs = [.ref p] ∧ (SqL K H p ys ∨ SqT K H p ys) ∧ ∀ l, H l = none → Q (.ref l) (upd H l (.lst ys))
theorem call_listK (K : PySem.W.Frag) (h : X.K = K) : CallR X (.type "list") (rListOf K) := by subst h; exact call_list_of
theorem call_isiK' (K : PySem.W.Frag) (h : X.K = K) : CallR X (.builtin "isinstance") (rIsi K) := by subst h; exact call_isi
theorem pe_revLK (K : PySem.W.Frag) (h : X.K = K) {k : Nat} {p1 p2 p3 pos : Pos} (he : PE X e te) : PE X (.Subscript e (.Slice none none (some (.UnaryOp .USub (.Constant (.int 1) k p1) p2)) p3) pos) (tRevL K te) := by subst h; exact pe_revL he
theorem pi_listK (K : PySem.W.Frag) (h : X.K = K) {tg : Expr} (he : PE X e te) : PI X tg e (iList K te) := by subst h; exact pi_list he
theorem pi_tupK (K : PySem.W.Frag) (h : X.K = K) {tg : Expr} (he : PE X e te) : PI X tg e (iTup K te) := by subst h; exact pi_tup he
theorem bmK (K : PySem.W.Frag) (h : X.K = K) (p : PE X e (tBM X.K T r to t)) : PE X e (tBM K T r to t) := by subst h; exact p
theorem bm0K (K : PySem.W.Frag) (h : X.K = K) (p : PE X e (tBM0 X.K T r to)) : PE X e (tBM0 K T r to) := by subst h; exact p
theorem fldK (K : PySem.W.Frag) (h : X.K = K) {f : Str} (p : PE X e (tFld X.K te f)) : PE X e (tFld K te f) := by subst h; exact p
end
section
variable {K : PySem.W.Frag} {σ : L2.St} {F F1 H : Hp} {ta tb te tx : TE} {t u : TT} {d e : PyData} {ds es : List PyData} {v : V}
theorem ev_neg {i : Int} (ha : EvF ta σ F (.int i)) : EvF (tUn (rU fun i => .int (-i)) ta) σ F (.int (-i)) := fun H s Q q => ha H s _ fun x F1 H1 f1 dx => ⟨i, dx.intE, q _ F1 H1 f1 (.int _)⟩
theorem ev_eq (ha : EvF ta σ F d) (hb : EvF tb σ F e) (pd : d.plain = true) (pe : e.plain = true) (dp : d.depth ≤ 60) : EvF (tOp rEqQ ta tb) σ F (.bool (PyData.eqv d e)) :=
  ev_op ha (fun _ k => hb.mono k) fun x y F1 H1 Q s dx dy q => ⟨d, e, dx.mono s, dy.mono s, pd, pe, dp, q _ F1 H1 (Fr.refl s) (.bl _)⟩
theorem ev_ne (ha : EvF ta σ F d) (hb : EvF tb σ F e) (pd : d.plain = true) (pe : e.plain = true) (dp : d.depth ≤ 60) : EvF (tOp rNeQ ta tb) σ F (.bool (!PyData.eqv d e)) :=
  ev_op ha (fun _ k => hb.mono k) fun x y F1 H1 Q s dx dy q => ⟨d, e, dx.mono s, dy.mono s, pd, pe, dp, q _ F1 H1 (Fr.refl s) (.bl _)⟩
theorem ev_in {neg : Bool} (ha : EvF ta σ F d) (hb : EvF tb σ F e) (he : e = .list ds ∨ e = .tuple ds) (pd : d.plain = true) (pe : PyData.plainAll ds = true) (dp : d.depth ≤ 60) :
    EvF (tOp (rInQ neg) ta tb) σ F (.bool (if neg then !(ds.any fun z => PyData.eqv z d) else ds.any fun z => PyData.eqv z d)) :=
  ev_op ha (fun _ k => hb.mono k) fun x y F1 H1 Q s dx dy q => ⟨d, ds, dx.mono s, he.imp (fun z => by rw [z] at dy; exact dy.mono s) (fun z => by rw [z] at dy; exact dy.mono s), pd, pe, dp, q _ F1 H1 (Fr.refl s) (.bl _)⟩
theorem ev_ixL {i : Int} (ha : EvF ta σ F (.list ds)) (hb : EvF tb σ F (.int i)) (hi : atI ds i = some d) : EvF (tOp (rIx K) ta tb) σ F d :=
  ev_op ha (fun _ k => hb.mono k) fun x y F1 H1 Q s dx dy q => by
    obtain ⟨a, xs, rfl, ex, dv⟩ := dx.lstE
    obtain ⟨j, h1, h2⟩ : ∃ j, ixN xs.length i = some j ∧ ds[j]? = some d := by
      unfold atI at hi
      rw [← dv.length] at hi
      cases z : ixN xs.length i with
      | none => rw [z] at hi; cases hi
      | some j => rw [z] at hi; exact ⟨j, rfl, hi⟩
    obtain ⟨v, hv, dv'⟩ := dv.get h2
    exact .inl ⟨a, xs, i, v, rfl, dy.intE, SqL.of (s _ _ ex), by unfold atI; rw [h1]; exact hv, q v F1 H1 (Fr.refl s) dv'⟩
theorem ev_ixT {i : Int} (ha : EvF ta σ F (.tuple ds)) (hb : EvF tb σ F (.int i)) (hi : atI ds i = some d) : EvF (tOp (rIx K) ta tb) σ F d :=
  ev_op ha (fun _ k => hb.mono k) fun x y F1 H1 Q s dx dy q => by
    obtain ⟨a, xs, rfl, ex, dv⟩ := dx.tupE
    obtain ⟨j, h1, h2⟩ : ∃ j, ixN xs.length i = some j ∧ ds[j]? = some d := by
      unfold atI at hi
      rw [← dv.length] at hi
      cases z : ixN xs.length i with
      | none => rw [z] at hi; cases hi
      | some j => rw [z] at hi; exact ⟨j, rfl, hi⟩
    obtain ⟨v, hv, dv'⟩ := dv.get h2
    exact .inr (.inl ⟨a, xs, i, v, rfl, dy.intE, SqT.of (s _ _ ex), by unfold atI; rw [h1]; exact hv, q v F1 H1 (Fr.refl s) dv'⟩)
theorem ei_none : EvI tNoPart σ F none := fun H s Q q => q F H (Fr.refl s)
theorem EvF.go (h : EvF te σ F d) {Q : VK} (s : Same F H) (q : ∀ v F2 H2, Fr M0 F H F2 H2 → Dq F2 v d → Q v H2) : te σ H Q := h H s Q q
theorem ei_some {i : Int} (h : EvF te σ F (.int i)) : EvI (tPart te) σ F (some i) := fun H s Q q => h H s _ fun v F2 H2 fr dv => ⟨i, dv.intE, q F2 H2 fr⟩
theorem EvI.mono {to : TO} {o : Option Int} (k : Same F F1) (h : EvI to σ F o) : EvI to σ F1 o := fun H s Q q => h H (fun a o e => s a o (k a o e)) Q fun F2 H2 fr =>
  q F1 H2 ⟨fun _ _ e => e, fun a o e => fr.hh _ _ (s _ _ e) fun z => z, fr.hh, fr.st, fun _ _ e _ => e⟩
def cutD (xs : List PyData) (lo hi : Option Int) : List PyData := (xs.drop (HT.sIx xs.length 0 lo)).take (HT.sIx xs.length xs.length hi - HT.sIx xs.length 0 lo)
theorem DqAll.cut {vs : List V} (h : DqAll F vs ds) (lo hi : Option Int) : DqAll F (cutV vs lo hi) (cutD ds lo hi) := by
  unfold cutV cutD
  rw [h.length]
  exact (h.drop _).take _
theorem eo_slL {tl th : TO} {lo hi : Option Int} (ha : EvF ta σ F (.list ds)) (hl : EvI tl σ F lo) (hh : EvI th σ F hi) : EvO (tSl (rSlL K) ta tl th) σ F (cutD ds lo hi) := fun H s Q q =>
  ha H s _ fun x F1 H1 f1 dx => (hl.mono f1.ff) H1 f1.fh _ fun F2 H2 f2 => (hh.mono (fun a o e => f2.ff _ _ (f1.ff _ _ e))) H2 f2.fh _ fun F3 H3 f3 => by
    obtain ⟨a, xs, rfl, ex, dv⟩ := dx.lstE
    have f := (f1.trans f2).trans f3
    exact ⟨a, xs, rfl, SqL.of (f3.fh _ _ (f3.ff _ _ (f2.ff _ _ ex))), fun p np => q p _ F3 _ (f.trans (Fr.own f3.fh np)) (f.st _ np) (f3.fh.free np) upd_same ((dv.mono fun a o e => f3.ff _ _ (f2.ff _ _ e)).cut lo hi)⟩
/-- a tuple's part, not the whole -/
theorem ev_slT {tl th : TO} {lo hi : Option Int} (ha : EvF ta σ F (.tuple ds)) (hl : EvI tl σ F lo) (hh : EvI th σ F hi) (hw : ¬ (HT.sIx ds.length 0 lo = 0 ∧ HT.sIx ds.length ds.length hi = ds.length)) : EvF (tSl (rSlT K) ta tl th) σ F (.tuple (cutD ds lo hi)) := fun H s Q q =>
  ha H s _ fun x F1 H1 f1 dx => (hl.mono f1.ff) H1 f1.fh _ fun F2 H2 f2 => (hh.mono (fun a o e => f2.ff _ _ (f1.ff _ _ e))) H2 f2.fh _ fun F3 H3 f3 => by
    obtain ⟨a, xs, rfl, ex, dv⟩ := dx.tupE
    have f := (f1.trans f2).trans f3
    refine ⟨a, xs, rfl, SqT.of (f3.fh _ _ (f3.ff _ _ (f2.ff _ _ ex))), by rw [dv.length]; exact hw, fun p np => ?_⟩
    have fn := Fr.new (M := M0) (o := .tup (cutV xs lo hi)) f3.fh np
    exact q _ _ _ (f.trans fn) (.tup upd_same (((dv.mono fun a o e => f3.ff _ _ (f2.ff _ _ e)).cut lo hi).mono fn.ff))
theorem ea_nil : EvA tNil σ F [] := fun H s Q q => q [] F H (Fr.refl s) .nil
theorem EvA.mono {ta : TA} (k : Same F F1) (h : EvA ta σ F ds) : EvA ta σ F1 ds := fun H s Q q => h H (fun a o e => s a o (k a o e)) Q fun v F2 H2 fr dv => by
  have fr' : Fr M0 F1 H (fun a => match F1 a with | some o => some o | none => F2 a) H2 := by
    refine ⟨fun a o e => ?_, fun a o e => ?_, fr.hh, fr.st, fun a o e1 e2 => ?_⟩
    · show (match F1 a with | some o => some o | none => F2 a) = some o
      rw [e]
    · have e : (match F1 a with | some o => some o | none => F2 a) = some o := e
      cases z : F1 a with
      | some u => rw [z] at e; exact fr.hh _ _ (s _ _ (z.trans e)) fun z => z
      | none => rw [z] at e; exact fr.fh _ _ e
    · show (match F1 a with | some o => some o | none => F2 a) = none
      rw [e1]
      refine fr.nw a o ?_ e2
      cases z : F a with
      | none => rfl
      | some u => rw [k _ _ z] at e1; cases e1
  refine q v _ H2 fr' (dv.mono fun a o e => ?_)
  show (match F1 a with | some o => some o | none => F2 a) = some o
  cases z : F1 a with
  | none => exact e
  | some u =>
    show some u = some o
    have h1 := fr.fh _ _ e
    rw [fr.hh _ _ (s _ _ z) fun z => z] at h1
    exact h1
theorem ea_cons {ta : TA} (he : EvF te σ F d) (ha : EvA ta σ F ds) : EvA (tCons te ta) σ F (d :: ds) := fun H s Q q =>
  he H s _ fun v F1 H1 f1 dv => (ha.mono f1.ff) H1 f1.fh _ fun vs F2 H2 f2 dvs => q _ F2 H2 (f1.trans f2) (.cons (dv.mono f2.ff) dvs)
theorem ev_tup {ta : TA} (h : EvA ta σ F ds) (hl : ds.length ≤ 10000) : EvF (tTup ta) σ F (.tuple ds) := fun H s Q q =>
  h H s _ fun vs F1 H1 f1 dvs => ⟨by rw [dvs.length]; exact Nat.le_trans hl (by decide), fun p np => by
    have fn := Fr.new (M := M0) (o := .tup vs) f1.fh np
    exact q _ _ _ (f1.trans fn) (.tup upd_same (dvs.mono fn.ff))⟩
theorem eo_lst {ta : TA} (h : EvA ta σ F ds) (hl : ds.length ≤ 10000) : EvO (tLst ta) σ F ds := fun H s Q q =>
  h H s _ fun vs F1 H1 f1 dvs => ⟨by rw [dvs.length]; exact Nat.le_trans hl (by decide), fun p np => q p vs F1 _ (f1.trans (Fr.own f1.fh np)) (f1.st _ np) (f1.fh.free np) upd_same dvs⟩
theorem eo_cat (ha : EvF ta σ F (.list ds)) (hb : EvF tb σ F (.list es)) (hl : ds.length + es.length ≤ 100000) : EvO (tOp rCat ta tb) σ F (ds ++ es) := fun H s Q q =>
  ha H s _ fun x F1 H1 f1 dx => (hb.mono f1.ff) H1 f1.fh _ fun y F2 H2 f2 dy => by
    obtain ⟨a, xs, rfl, ex, dv⟩ := dx.lstE
    obtain ⟨b, ys, rfl, ey, dw⟩ := dy.lstE
    have f := f1.trans f2
    exact ⟨a, b, xs, ys, rfl, rfl, f2.fh _ _ (f2.ff _ _ ex), f2.fh _ _ ey, by rw [dv.length, dw.length]; exact Nat.le_trans hl (by decide),
      fun p np => q p _ F2 _ (f.trans (Fr.own f2.fh np)) (f.st _ np) (f2.fh.free np) upd_same ((dv.mono f2.ff).append dw)⟩
theorem eo_rev (ha : EvF ta σ F (.list ds)) : EvO (tRevL K ta) σ F ds.reverse := fun H s Q q =>
  ha H s _ fun x F1 H1 f1 dx => by
    obtain ⟨a, xs, rfl, ex, dv⟩ := dx.lstE
    exact ⟨a, xs, rfl, SqL.of (f1.fh _ _ ex), fun p np => q p _ F1 _ (f1.trans (Fr.own f1.fh np)) (f1.st _ np) (f1.fh.free np) upd_same dv.reverse⟩
theorem eo_list (ha : EvF ta σ F (.list ds)) : EvO (tCB (rListOf K) (tCons ta tNil)) σ F ds := fun H s Q q =>
  ha H s _ fun x F1 H1 f1 dx => by
    obtain ⟨a, xs, rfl, ex, dv⟩ := dx.lstE
    exact ⟨a, xs, rfl, .inl (SqL.of (f1.fh _ _ ex)), fun p np => q p _ F1 _ (f1.trans (Fr.own f1.fh np)) (f1.st _ np) (f1.fh.free np) upd_same dv⟩
theorem ev_lenL (ha : EvF ta σ F (.list ds)) : EvF (tCB (rLenQ K) (tCons ta tNil)) σ F (.int (ds.length : Int)) := fun H s Q q =>
  ha H s _ fun x F1 H1 f1 dx => by
    obtain ⟨a, xs, rfl, ex, dv⟩ := dx.lstE
    exact ⟨a, xs, rfl, .inl (SqL.of (f1.fh _ _ ex)), by rw [dv.length]; exact q _ F1 H1 f1 (.int _)⟩
theorem ev_lenT (ha : EvF ta σ F (.tuple ds)) : EvF (tCB (rLenQ K) (tCons ta tNil)) σ F (.int (ds.length : Int)) := fun H s Q q =>
  ha H s _ fun x F1 H1 f1 dx => by
    obtain ⟨a, xs, rfl, ex, dv⟩ := dx.tupE
    exact ⟨a, xs, rfl, .inr (SqT.of (f1.fh _ _ ex)), by rw [dv.length]; exact q _ F1 H1 f1 (.int _)⟩
/-! tests -/
theorem et_test {b : Bool} (h : EvF te σ F (.bool b)) : EvT (tTest te) σ F b := fun H s Q q => h H s _ fun v F2 H2 fr dv => ⟨b, dv.blE, q F2 H2 fr⟩
theorem et_B {b : Bool} (h : EvF te σ F (.bool b)) : EvT (tB te) σ F b := fun H s Q q => h H s _ fun v F2 H2 fr dv => ⟨b, dv.blE, q F2 H2 fr⟩
theorem EvT.mono {b : Bool} (k : Same F F1) (h : EvT t σ F b) : EvT t σ F1 b := fun H s Q q => h H (fun a o e => s a o (k a o e)) Q fun F2 H2 fr =>
  q F1 H2 ⟨fun _ _ e => e, fun a o e => fr.hh _ _ (s _ _ e) fun z => z, fr.hh, fr.st, fun _ _ e _ => e⟩
theorem et_not {b : Bool} (h : EvT t σ F b) : EvT (tNot t) σ F (!b) := fun H s Q q => h H s _ fun F2 H2 fr => q F2 H2 fr
theorem et_and {a b : Bool} (h1 : EvT t σ F a) (h2 : a = true → EvT u σ F b) : EvT (tAnd t u) σ F (a && b) := fun H s Q q => h1 H s _ fun F1 H1 f1 => by
  cases a with
  | true => exact ((h2 rfl).mono f1.ff) H1 f1.fh _ fun F2 H2 f2 => q F2 H2 (f1.trans f2)
  | false => exact q F1 H1 f1
theorem et_or {a b : Bool} (h1 : EvT t σ F a) (h2 : a = false → EvT u σ F b) : EvT (tOr t u) σ F (a || b) := fun H s Q q => h1 H s _ fun F1 H1 f1 => by
  cases a with
  | true => exact q F1 H1 f1
  | false => exact ((h2 rfl).mono f1.ff) H1 f1.fh _ fun F2 H2 f2 => q F2 H2 (f1.trans f2)
theorem EvF.is {d' : PyData} (h : EvF te σ F d) (e : d = d') : EvF te σ F d' := e ▸ h
theorem EvO.is {ds' : List PyData} (h : EvO te σ F ds) (e : ds = ds') : EvO te σ F ds' := e ▸ h
theorem EvT.is {b b' : Bool} (h : EvT t σ F b) (e : b = b') : EvT t σ F b' := e ▸ h
/-! a comprehension over a list: which items, each what -/
def gathered (ds : List PyData) (f : PyData → Bool) (g : PyData → PyData) : List PyData := (ds.filter f).map g
theorem eo_lcL {tl : TE} {j : Nat} {vs : List Nat} (f : PyData → Bool) (g : PyData → PyData) (h : EvF tl σ F (.list ds)) (hz : ds.length ≤ 100000) (hw : ∀ x, wipe ((wipe σ vs).set j (some x)) vs = wipe σ vs)
    (ht : ∀ (d : PyData) (x : V) F1, d ∈ ds → Same F F1 → Dq F1 x d → EvT t ((wipe σ vs).set j (some x)) F1 (f d))
    (he : ∀ (d : PyData) (x : V) F1, d ∈ ds → Same F F1 → Dq F1 x d → f d = true → EvF te ((wipe σ vs).set j (some x)) F1 (g d)) :
    EvO (tLc (iList K tl) (gName j) t te vs) σ F (gathered ds f g) := fun H0 s Q q => h H0 s _ fun x F1 H1 f1 dx => by
  obtain ⟨a, xs, rfl, ex, dv⟩ := dx.lstE
  refine ⟨a, rfl, ⟨xs, SqL.of (f1.fh _ _ ex)⟩, fun Dl nD => ?_⟩
  refine lc_list (xs := xs) (fun i H' => ∃ F' vs', Fr (fun a => a = Dl) F1 (upd H1 Dl (.lst [])) F' H' ∧ H' Dl = some (.lst vs') ∧ DqAll F' vs' (gathered (ds.take i) f g)) ?_ ?_ ?_ ?_
  · exact ⟨F1, [], Fr.refl (fun a o e => by rw [upd_ne (ne_of_none (f1.fh _ _ e) nD)]; exact f1.fh _ _ e), upd_same, .nil⟩
  · rintro i H' _ ⟨F', vs', fr, _, _⟩
    exact SqL.of (fr.fh _ _ (fr.ff _ _ ex))
  · rintro i x H' hi ⟨F', vs', fr, hD, dvs⟩
    refine ⟨hw x, ?_⟩
    obtain ⟨d, hd, dxd⟩ := dv.getV hi
    have hmem : d ∈ ds := List.mem_of_getElem? hd
    have sF : Same F F' := fun a o e => fr.ff _ _ (f1.ff _ _ e)
    have dx' : Dq F' x d := dxd.mono fr.ff
    have nDF : F' Dl = none := fr.nw Dl _ (f1.fh.free nD) upd_same
    have hlt := (List.getElem?_eq_some_iff.mp hd).1
    have htk : ds.take (i + 1) = ds.take i ++ [d] := by rw [List.take_add_one, hd]; rfl
    refine ht d x F' hmem sF dx' H' fr.fh _ fun F2 H2 f2 => ?_
    have hD2 : H2 Dl = some (.lst vs') := f2.hh _ _ hD fun z => z
    have nD2 : F2 Dl = none := f2.nw _ _ nDF hD
    cases hf : f d with
    | true =>
      show te _ H2 _
      refine he d x F2 hmem (fun a o e => f2.ff _ _ (sF _ _ e)) (dx'.mono f2.ff) hf H2 f2.fh _ fun v F3 H3 f3 dv3 => ?_
      have hD3 : H3 Dl = some (.lst vs') := f3.hh _ _ hD2 fun z => z
      have nD3 : F3 Dl = none := f3.nw _ _ nD2 hD2
      have hl : vs'.length ≤ i := by
        rw [dvs.length]
        unfold gathered
        rw [List.length_map]
        exact Nat.le_trans (List.length_filter_le _ _) (List.length_take_le _ _)
      refine ⟨vs', hD3, Nat.lt_of_le_of_lt hl (Nat.lt_of_lt_of_le hlt (Nat.le_trans hz (by decide))), F3, vs' ++ [v], ?_, upd_same, ?_⟩
      · exact ((fr.trans f2.up).trans f3.up).trans (Fr.put f3.fh nD3 rfl)
      · have e1 : gathered (ds.take (i + 1)) f g = gathered (ds.take i) f g ++ [g d] := by
          unfold gathered
          rw [htk, List.filter_append, List.map_append, List.filter_cons, if_pos hf]
          rfl
        rw [e1]
        exact (dvs.mono fun a o e => f3.ff _ _ (f2.ff _ _ e)).append (.cons dv3 .nil)
    | false =>
      show ∃ F' vs', _
      refine ⟨F2, vs', fr.trans f2.up, hD2, ?_⟩
      have e1 : gathered (ds.take (i + 1)) f g = gathered (ds.take i) f g := by
        unfold gathered
        rw [htk, List.filter_append, List.map_append, List.filter_cons, if_neg (by rw [hf]; decide)]
        show _ ++ [] = _
        rw [List.append_nil]
      rw [e1]
      exact dvs.mono f2.ff
  · rintro H' ⟨F', vs', fr, hD, dvs⟩
    have e : ds.take xs.length = ds := List.take_of_length_le (by rw [dv.length]; exact Nat.le_refl _)
    rw [e] at dvs
    refine q Dl vs' F' H' (f1.trans ⟨fr.ff, fr.fh, fun a o e _ => ?_, fun a e => ?_, fun a o e1 e2 => ?_⟩) (f1.st _ nD) (fr.nw Dl _ (f1.fh.free nD) upd_same) hD dvs
    · exact fr.hh a o (by rw [upd_ne (ne_of_none e nD)]; exact e) (ne_of_none e nD)
    · have := fr.st a e
      by_cases z : a = Dl
      · subst z; exact nD
      · rw [upd_ne z] at this; exact this
    · exact fr.nw a o e1 (by rw [upd_ne (ne_of_none e2 nD)]; exact e2)
end

section
variable {M : Addr → Prop} {F H F2 H2 : Hp} {K : PySem.W.Frag}
/-- what was frozen on the way is left aside -/
theorem Fr.drop (a : Fr M F H F2 H2) : Fr M F H F H2 := ⟨fun _ _ e => e, fun x o e => a.fh _ _ (a.ff _ _ e), a.hh, a.st, fun _ _ e _ => e⟩
end
/-! ### slices -/
theorem sIx_neg1 (n d : Nat) (h : 0 < n) : HT.sIx n d (some (-1)) = n - 1 := by
  show (if (-1 : Int) < 0 then ((-1 : Int) + (n : Int)).toNat else min (-1 : Int).toNat n) = n - 1
  rw [if_pos (by decide)]
  omega
theorem take_min {α : Type} (xs : List α) (k : Nat) : xs.take (min k xs.length) = xs.take k := by
  by_cases h : k ≤ xs.length
  · rw [Nat.min_eq_left h]
  · rw [Nat.min_eq_right (by omega), List.take_length, List.take_of_length_le (by omega)]
theorem cutV_to (xs : List V) (k : Nat) : cutV xs none (some (k : Int)) = xs.take k := by
  unfold cutV
  rw [HT.sIx_none, HT.sIx_nat, List.drop_zero, Nat.sub_zero, take_min]
theorem cutV_from (xs : List V) (k : Nat) : cutV xs (some (k : Int)) none = xs.drop k := by
  unfold cutV
  rw [HT.sIx_none, HT.sIx_nat]
  by_cases h : k ≤ xs.length
  · rw [Nat.min_eq_left h, List.take_of_length_le (by rw [List.length_drop]; exact Nat.le_refl _)]
  · rw [Nat.min_eq_right (by omega), List.drop_length, List.drop_of_length_le (by omega), List.take_nil]
theorem cutD_to (xs : List PyData) (k : Nat) : cutD xs none (some (k : Int)) = xs.take k := by
  unfold cutD
  rw [HT.sIx_none, HT.sIx_nat, List.drop_zero, Nat.sub_zero, take_min]
theorem cutD_from (xs : List PyData) (k : Nat) : cutD xs (some (k : Int)) none = xs.drop k := by
  unfold cutD
  rw [HT.sIx_none, HT.sIx_nat]
  by_cases h : k ≤ xs.length
  · rw [Nat.min_eq_left h, List.take_of_length_le (by rw [List.length_drop]; exact Nat.le_refl _)]
  · rw [Nat.min_eq_right (by omega), List.drop_length, List.drop_of_length_le (by omega), List.take_nil]
/-- whatever the bounds, a slice of typed things is one -/
theorem cutD_map {α : Type} (t : α → PyData) (xs : List α) (lo hi : Option Int) : ∃ i k, cutD (xs.map t) lo hi = (((xs.drop i).take k).map t) := ⟨HT.sIx xs.length 0 lo, HT.sIx xs.length xs.length hi - HT.sIx xs.length 0 lo, by
  unfold cutD
  rw [List.length_map, List.map_take, List.map_drop]⟩
/-! ### equality of typed data -/
theorem eqvAll_map {α : Type} [DecidableEq α] (t : α → PyData) (ht : ∀ a b, PyData.eqv (t a) (t b) = decide (a = b)) : ∀ xs ys : List α, PyData.eqvAll (xs.map t) (ys.map t) = decide (xs = ys)
  | [], [] => by simp only [List.map_nil, PyData.eqvAll, decide_true]
  | [], _ :: _ => by simp [PyData.eqvAll]
  | _ :: _, [] => by simp [PyData.eqvAll]
  | x :: xs, y :: ys => by
    rw [List.map_cons, List.map_cons, PyData.eqvAll, ht, eqvAll_map t ht xs ys, ← Bool.decide_and]
    exact decide_eq_decide.mpr (by rw [List.cons.injEq])
theorem eqv_list {α : Type} [DecidableEq α] (t : α → PyData) (ht : ∀ a b, PyData.eqv (t a) (t b) = decide (a = b)) (xs ys : List α) : PyData.eqv (.list (xs.map t)) (.list (ys.map t)) = decide (xs = ys) := by
  simp only [PyData.eqv]
  exact eqvAll_map t ht xs ys
theorem eqv_str (a b : Str) : PyData.eqv (.str a) (.str b) = decide (a = b) := by
  simp only [PyData.eqv]
  by_cases h : a = b
  · subst h; simp
  · rw [decide_eq_false h]; exact beq_eq_false_iff_ne.mpr h
theorem perm_map_ex {α β : Type} (f : α → β) (g : β → α) (hg : ∀ a, g (f a) = a) {l : List β} {xs : List α} (h : l.Perm (xs.map f)) : ∃ l' : List α, l = l'.map f ∧ l'.Perm xs := by
  refine ⟨l.map g, ?_, ?_⟩
  · have : ∀ b ∈ l, f (g b) = b := fun b hb => by
      obtain ⟨a, _, rfl⟩ := List.mem_map.mp (h.mem_iff.mp hb)
      rw [hg]
    rw [List.map_map]
    conv => lhs; rw [← List.map_id l]
    exact List.map_congr_left fun b hb => (this b hb).symm
  · have h2 := h.map g
    rw [List.map_map] at h2
    have e : xs.map (g ∘ f) = xs := by
      conv => rhs; rw [← List.map_id xs]
      exact List.map_congr_left fun a _ => hg a
    rw [e] at h2
    exact h2

section
variable {F H H2 : Hp} {p : Addr}
theorem Fr.kept (s : Same F H) (n : F p = none) (kp : ∀ x o, H x = some o → x ≠ p → H2 x = some o) (st : ∀ x, H2 x = none → H x = none) : Fr (fun a => a = p) F H F H2 :=
  ⟨fun _ _ e => e, fun a o e => kp a o (s _ _ e) (fun z => by subst z; rw [n] at e; cases e), fun a o e n => kp a o e n, st, fun _ _ e _ => e⟩
end

/-! ### statements -/
section
variable {K : PySem.W.Frag} {σ : L2.St} {F H : Hp} {te : TE} {t : TT} {tu tw tz : TS} {d : PyData} {ds : List PyData} {v : V} {D : Ends} {i : Nat} {b : Bool}
/-- an assignment, its value by hand -/
theorem s_wp (h : te σ H fun v H1 => tz D (σ.set i (some v)) H1) : tSeq (tAsg te (gName i)) tz D σ H := h
theorem s_asg (h : EvF te σ F d) (s : Same F H) (k : ∀ v F1 H1, Fr M0 F H F1 H1 → Dq F1 v d → tz D (σ.set i (some v)) H1) : tSeq (tAsg te (gName i)) tz D σ H := h H s _ k
theorem s_asgO (h : EvO te σ F ds) (s : Same F H) (k : ∀ p vs F1 H1, Fr M0 F H F1 H1 → H p = none → F1 p = none → H1 p = some (.lst vs) → DqAll F1 vs ds → tz D (σ.set i (some (.ref p))) H1) : tSeq (tAsg te (gName i)) tz D σ H := h H s _ k
theorem s_if (h : EvT t σ F b) (s : Same F H) (k1 : b = true → ∀ F1 H1, Fr M0 F H F1 H1 → tu { D with nx := tz D } σ H1) (k2 : b = false → ∀ F1 H1, Fr M0 F H F1 H1 → tw { D with nx := tz D } σ H1) : tSeq (tIfS t tu tw) tz D σ H := h H s _ fun F1 H1 f1 => by
  cases b with
  | true => exact k1 rfl F1 H1 f1
  | false => exact k2 rfl F1 H1 f1
/-- an if without an else -/
theorem s_when (h : EvT t σ F b) (s : Same F H) (k1 : b = true → ∀ F1 H1, Fr M0 F H F1 H1 → tu { D with nx := tz D } σ H1) (k2 : b = false → ∀ F1 H1, Fr M0 F H F1 H1 → tz D σ H1) : tSeq (tIfS t tu tNext) tz D σ H := h H s _ fun F1 H1 f1 => by
  cases b with
  | true => exact k1 rfl F1 H1 f1
  | false => exact k2 rfl F1 H1 f1
theorem s_whenE (h : EvT t σ F b) (s : Same F H) (k1 : b = true → ∀ F1 H1, Fr M0 F H F1 H1 → tu D σ H1) (k2 : b = false → ∀ F1 H1, Fr M0 F H F1 H1 → D.nx σ H1) : tIfS t tu tNext D σ H := h H s _ fun F1 H1 f1 => by
  cases b with
  | true => exact k1 rfl F1 H1 f1
  | false => exact k2 rfl F1 H1 f1
theorem s_ret (h : EvF te σ F d) (s : Same F H) (k : ∀ v F1 H1, Fr M0 F H F1 H1 → Dq F1 v d → D.rt v H1) : tRet te D σ H := h H s _ k
theorem s_retO (h : EvO te σ F ds) (s : Same F H) (k : ∀ p vs F1 H1, Fr M0 F H F1 H1 → H p = none → F1 p = none → H1 p = some (.lst vs) → DqAll F1 vs ds → D.rt (.ref p) H1) : tRet te D σ H := h H s _ k
theorem s_drop (h : te σ H fun _ H1 => tz D σ H1) : tSeq (tDrop te) tz D σ H := h
end

/-! ### isinstance, is, loops -/
def tyName : PyData → String
  | .none => "NoneType"
  | .bool _ => "bool"
  | .int _ => "int"
  | .str _ => "str"
  | .list _ => "list"
  | .tuple _ => "tuple"
  | .dict _ => "dict"
theorem Dq.tyX {K : PySem.W.Frag} {H : Hp} {v : V} {d : PyData} (h : Dq H v d) : TyX K H v (.type (tyName d)) := by
  cases h with
  | non => exact .base .non
  | bl b => exact .base (.bl b)
  | int i => exact .base (.int i)
  | str x => exact .base (.str x)
  | lst e h => exact .base (.lst e)
  | tup e h => exact .base (.tup e)
  | dK e h => exact .base (.dK e)
  | dT e h => exact .base (.dT e)
section
variable {K : PySem.W.Frag} {σ : L2.St} {F H : Hp} {ta tb te tl : TE} {tA : TA} {t : TT} {tu tw tz tbd : TS} {d : PyData} {ds : List PyData} {v : V} {D : Ends} {i j : Nat} {b : Bool}
theorem ev_isi {T : String} (ha : EvF ta σ F d) (hk : kitB (tyName d) T = some b) : EvF (tCB (rIsi K) (tCons ta (tCons (tC (.ty T)) tNil))) σ F (.bool b) := fun H s Q q =>
  ha H s _ fun x F1 H1 f1 dx => ⟨x, .ty T, .type (tyName d), .type T, b, rfl, .ty T, (dx.mono f1.fh).tyX, kit_ty hk, q _ F1 H1 f1 (.bl b)⟩
theorem ev_isBl {a b : Bool} (ha : EvF ta σ F (.bool a)) (hb : EvF tb σ F (.bool b)) : EvF (tOp rIsB ta tb) σ F (.bool (decide (a = b))) :=
  ev_op ha (fun _ k => hb.mono k) fun x y F1 H1 Q s dx dy q => ⟨a, b, dx.blE, dy.blE, q _ F1 H1 (Fr.refl s) (.bl _)⟩
theorem ev_notBl {a b : Bool} (ha : EvF ta σ F (.bool a)) (hb : EvF tb σ F (.bool b)) : EvF (tOp rNotB ta tb) σ F (.bool (!decide (a = b))) :=
  ev_op ha (fun _ k => hb.mono k) fun x y F1 H1 Q s dx dy q => ⟨a, b, dx.blE, dy.blE, q _ F1 H1 (Fr.refl s) (.bl _)⟩
/-- for x in a list of data -/
theorem s_forL (h : EvF tl σ F (.list ds)) (s : Same F H)
    (k : ∀ a xs F1 H1, Fr M0 F H F1 H1 → F1 a = some (.lst xs) → DqAll F1 xs ds → ∃ Pv : Nat → L2.St → Hp → Prop, Pv 0 σ H1 ∧ (∀ i σ' H', Pv i σ' H' → Same F1 H') ∧
      (∀ i d x σ' H', ds[i]? = some d → Dq F1 x d → Pv i σ' H' → tbd { D with nx := Pv (i + 1), ct := Pv (i + 1), bk := tz D } (σ'.set j (some x)) H') ∧ (∀ σ' H', Pv ds.length σ' H' → tz D σ' H')) :
    tSeq (tFor (iList K tl) (gName j) tbd) tz D σ H := h H s _ fun x F1 H1 f1 dx => by
  obtain ⟨a, xs, rfl, ex, dv⟩ := dx.lstE
  obtain ⟨Pv, h0, hs, ht, he⟩ := k a xs F1 H1 f1 ex dv
  refine ⟨a, rfl, ⟨xs, SqL.of (f1.fh _ _ ex)⟩, for_list (xs := xs) (D := { D with nx := tz D }) Pv h0 (fun i σ' H' _ p => SqL.of (hs i σ' H' p _ _ ex)) (fun i x σ' H' hi p => ?_) (fun σ' H' p => ?_)⟩
  · obtain ⟨d, hd, dd⟩ := dv.getV hi
    exact ht i d x σ' H' hd dd p
  · rw [dv.length] at p
    exact he σ' H' p
/-- for k in range(n) -/
theorem s_forR {n : Int} (h : EvA tA σ F [.int n]) (hn : n < 2 ^ 62 ∧ -(2 ^ 62) ≤ n) (s : Same F H)
    (k : ∀ F1 H1, Fr M0 F H F1 H1 → ∃ Pv : Nat → L2.St → Hp → Prop, Pv 0 σ H1 ∧
      (∀ (i : Nat) σ' H', (i : Int) < n → Pv i σ' H' → tbd { D with nx := Pv (i + 1), ct := Pv (i + 1), bk := tz D } (σ'.set j (some (.int (i : Int)))) H') ∧ (∀ σ' H', Pv n.toNat σ' H' → tz D σ' H')) :
    tSeq (tFor (iRng1 tA) (gName j) tbd) tz D σ H := h H s _ fun vs F1 H1 f1 dv => by
  cases dv with
  | cons d1 t =>
    cases t
    cases d1.intE
    obtain ⟨Pv, h0, ht, he⟩ := k F1 H1 f1
    refine ⟨n, rfl, hn.2, hn.1, for_range (D := { D with nx := tz D }) Pv h0 (fun i σ' H' hi p => ?_) he⟩
    have e : (0 : Int) + (i : Int) = (i : Int) := Int.zero_add _
    show tbd _ (σ'.set j (some (.int ((0 : Int) + (i : Int))))) H'
    rw [e]
    exact ht i σ' H' (by omega) p
end

section
variable {M N : Addr → Prop} {F H H1 F2 H2 : Hp} {D : Addr} {o : HO}
/-- an object that was new, and was changed since -/
theorem Fr.unown (f : Fr M F (upd H1 D o) F2 H2) (n : H1 D = none) (h : ∀ a, M a → a = D ∨ N a) : Fr N F H1 F2 H2 := by
  refine ⟨f.ff, f.fh, fun a u e nn => ?_, fun a e => ?_, fun a u e1 e2 => ?_⟩
  · have ne := ne_of_none e n
    exact f.hh a u (by rw [upd_ne ne]; exact e) fun z => (h a z).elim ne nn
  · have := f.st a e
    by_cases z : a = D
    · rw [z]; exact n
    · rw [upd_ne z] at this; exact this
  · exact f.nw a u e1 (by rw [upd_ne (ne_of_none e2 n)]; exact e2)
end
end Ly

set_option Elab.async false
set_option linter.all false
set_option maxRecDepth 100000
set_option maxHeartbeats 2000000
/-! own exception classes over ValueError, IndexError, KeyError: instances as values -/
namespace Lx
open PySem PySem.Spec PyProof.Rows L2 Ly PySem.W
open Builtin.ObjectAttr (storeInDict)
/-- what the classes behind C hold -/
structure Tops (NB : String) (bm : List Value) : Prop where
  base : bm.contains (.type NB) = true
  att : bm.contains (.type "AttributeError") = false
  nme : bm.contains (.type "NameError") = false
section
variable {M : Model} {A : Around} {E : Value → Shared → Prop} {h : Heap} {g : Array GenState} {d : Drawn} {t : Nat} {os : OsState}
variable {nm q : Str} {C N : Addr} {bs bm bmN : List Value} {hdct : Bool} {sn : List Str} {sub : List Value} {ab : Bool} {col : Option Bool} {dd : Option Addr} {k0 k1 k2 k3 k5 : Option Value} {NB newId inN : String} {rest : List Value} {kw : List (Str × Value)}
theorem x_check (F : ExcBaseFacts NB newId inN bmN) (T : Tops NB bm) {Q : Unit → Shared → Prop} (hC : h.get? C = some (excClassObj nm q C N bs bm hdct sn sub ab col dd k0 k1 k2 k3 k5 newId)) (hq : Q () ⟨h, g, d, t, os⟩) :
    wpAny M A (checkBuiltinCall newId ⟨.ref C :: rest, kw⟩) Q E ⟨h, g, d, t, os⟩ := by
  have hs := F.noStar
  have hb : (Value.ref C :: bm).contains (.type NB) = true := by rw [List.contains_cons, T.base, Bool.or_true]
  simp only [checkBuiltinCall, F.newKind, F.newRow, F.newSplit]
  repeat (first | refine wpAny_staticBase_exc hC ?_ | refine wpAny_madeBy_exc hC ?_ | refine wpAny_loadPart_at hC ?_ | (refine wpAny_isSubtype_exc hC ?_; rw [hb]) | simp only [bne_self_eq_false, Bool.false_eq_true, if_false] | wp_step)
  exact hq
end
section
variable {prog : Program} {w : World} {A : Around} {E : Value → Shared → Prop} {R : Result → Shared → Prop} {h : Heap} {g : Array GenState} {d : Drawn} {t : Nat} {os : OsState}
variable {nm q : Str} {C N : Addr} {bs bm bmN : List Value} {hdct : Bool} {sn : List Str} {sub : List Value} {ab : Bool} {col : Option Bool} {dd : Option Addr} {k0 k1 k2 k3 k5 : Option Value} {NB newId inN : String} {rest : List Value} {kw : List (Str × Value)}
abbrev xTup (us : List Value) : Obj := { cls := .type "tuple", data := .seq us.toArray }
abbrev xObj (C : Addr) (dv : Option Addr) (a : Addr) : Obj := { cls := .ref C, dict := dv, data := .fields #[.ref a, .none, .none, .none, .bool false, .none] }
/-- the heap behind BaseException.__new__ -/
abbrev xHeap (h : Heap) (C : Addr) (us : List Value) : Heap := (h.push (xTup us)).push (xObj C none h.objs.size)
theorem x_new (F : ExcBaseFacts NB newId inN bmN) (T : Tops NB bm) (hC : h.get? C = some (excClassObj nm q C N bs bm hdct sn sub ab col dd k0 k1 k2 k3 k5 newId)) (hz : rest.length ≤ sizeLine)
    (hq : R (.ok (.ret (.ref (h.objs.size + 1)))) ⟨xHeap h C rest, g, d, t, os⟩) : codeAny (model prog w) A (.builtin newId ⟨.ref C :: rest, kw⟩) R ⟨h, g, d, t, os⟩ := by
  have he := F.ends
  have hb : (Value.ref C :: bm).contains (.type NB) = true := by rw [List.contains_cons, T.base, Bool.or_true]
  have ha : (Value.ref C :: bm).contains (.type "AttributeError") = false := by rw [List.contains_cons, T.att]; rfl
  have hn : (Value.ref C :: bm).contains (.type "NameError") = false := by rw [List.contains_cons, T.nme]; rfl
  refine codeAny_builtinAt F.entry ?_
  unfold Builtin.«BaseException.__new__»
  refine PySem.wpAt_bind ?_
  show PySem.wpAt _ _ _ (stack >>= _) _ _ _
  refine PySem.wpAt_bind (PySem.wpAt_stack fun p below => PySem.wpAt_of_wpAny ?_)
  wp_walk
  refine PySem.wpAt_of_wpAny ?_
  rw [F.owner]
  repeat (first | with_reducible refine wpAny_loadPart_at hC ?_ | with_reducible refine wpAny_madeHere_exc F.canon hC ?_ | (with_reducible refine wpAny_isSubtype_exc hC ?_; first | rw [hb] | rw [ha] | rw [hn]) | wp_step)
  show R _ _
  rw [Heap.size_push]
  exact hq
theorem x_type (F : ExcBaseFacts NB newId inN bmN) (T : Tops NB bm) {init : Value} {Q : Fin → Shared → Prop} (hC : h.get? C = some (excClassObj nm q C N bs bm hdct sn sub ab col dd k0 k1 k2 k3 k5 newId))
    (hi : Looks (model prog w) h (typeLookup (.ref C) "__init__") (some init)) (hb : ∀ self, Looks (model prog w) h (bindSpecial init self) (init, [self])) (hz : rest.length ≤ sizeLine)
    (hq : codeAny (model prog w) A (.call init ⟨.ref (h.objs.size + 1) :: rest, kw⟩) (fun r s' => match r with | .ok (.ret v) => v = .none ∧ Q (.done (.ret (.ref (h.objs.size + 1)))) s' | .ok _ => False | .error e => E e s') ⟨xHeap h C rest, g, d, t, os⟩) :
    wpAny (model prog w) A (Builtin.«type.__call__» ⟨.ref C :: rest, kw⟩) Q E ⟨h, g, d, t, os⟩ := by
  have kp : ∀ b o, h.get? b = some o → (xHeap h C rest).get? b = some o := fun b o e => Heap.get?_push_of_some _ (Heap.get?_push_of_some _ e)
  have gx : (xHeap h C rest).get? (h.objs.size + 1) = some (xObj C none h.objs.size) := by heap_get
  have cc : (Value.ref C :: bm).contains (.ref C) = true := by simp
  repeat (first | with_reducible refine wpAny_madeBy_exc hC ?_ | with_reducible refine wpAny_loadPart_at hC ?_ | wp_step)
  refine codeAny_call_builtin_code (Code.quiet_builtin _ F.quiet) (x_check F T hC ?_)
  refine x_new F T hC hz ?_
  show wpAny _ _ _ _ _ _
  unfold isInstance
  repeat (first | with_reducible refine wpAny_loadPart_at gx ?_ | (with_reducible refine wpAny_isSubtype_exc (kp _ _ hC) ?_; rw [cc]) | wp_step)
  show wpAny _ _ (typeLookup (.ref C) _) _ _ _
  refine (hi.keeps kp).at ?_
  refine wpAny_holding (wpAny_bind (((hb (.ref (h.objs.size + 1))).keeps kp).at ?_))
  refine wpAny_bind (wpAny_call (codeAny_mono hq fun r s' z => ?_))
  rcases r with e | (v | _ | _ | _) <;> first | exact z | exact z.elim | skip
  obtain ⟨rfl, z⟩ := z
  first | exact wpAny_pure (wpAny_pure z) | (wp_walk; exact z)
theorem x_call (F : ExcBaseFacts NB newId inN bmN) (T : Tops NB bm) {init : Value} (hC : h.get? C = some (excClassObj nm q C N bs bm hdct sn sub ab col dd k0 k1 k2 k3 k5 newId))
    (hi : Looks (model prog w) h (typeLookup (.ref C) "__init__") (some init)) (hb : ∀ self, Looks (model prog w) h (bindSpecial init self) (init, [self])) (hz : rest.length ≤ sizeLine)
    (hq : codeAny (model prog w) (A.under (.builtin "type.__call__" ⟨.ref C :: rest, kw⟩)) (.call init ⟨.ref (h.objs.size + 1) :: rest, kw⟩) (InitBack (h.objs.size + 1) R) ⟨xHeap h C rest, g, d, t, os⟩) :
    codeAny (model prog w) A (.call (.ref C) ⟨rest, kw⟩) R ⟨h, g, d, t, os⟩ := by
  have f1 := tc_lookup
  have f2 := tc_bind (.ref C)
  have ty : (⟨h, g, d, t, os⟩ : Shared).TypeIs (.ref C) "type" := ⟨_, hC, rfl⟩
  have lt : Looks (model prog w) h (isInstance (.ref C) (.type "type")) true := ((Looks.ld (part := none) hC).andThen .now).andThen (Looks.of_pure tc_sub)
  refine codeAny_of_tree ?_
  show wpAny _ _ (callAny (.ref C) _) _ _ _
  repeat (any_goals (first | assumption | with_reducible refine wpAny_loadPart_at hC ?_ | wp_step))
  refine ⟨rfl, ?_⟩
  refine codeAny_call_builtin_at (Code.quiet_builtin _ (by decide +kernel)) entry_typeCall (check_slot tc_kind tc_split lt (tc_args _ _ _) (x_type F T hC hi hb hz ?_))
  refine codeAny_mono hq fun r s' z => ?_
  rcases r with e | (v | _ | _ | _) <;> exact z
end
/-! ### X.__init__ of the built-in classes -/
structure InitF (B initId : String) : Prop where
  slot : Slot B "__init__" initId
  entry : entryFor table initId = some Builtin.«BaseException.__init__»
  split : splitId initId = some (B, "__init__")
  kind : builtinKind initId = some .slot
  row : Manifest.signature? initId = some ⟨.positional, "*", B, .self, [⟨"args", .varPos, false⟩]⟩
  star : (B != "*") = true
theorem InitF.of {B n i : String} (F : ExcCallFacts B n i) : InitF B i := ⟨F.init, F.initEntry, F.initSplit, F.initKind, F.initRow, F.noStar⟩
theorem init_KeyError : InitF "KeyError" "KeyError.__init__" where
  slot := .of (owner := "KeyError") (n := "__init__") (by rw [typeLookup_type, builtinLookup_eq_fast]; kernel_rfl) (by decide +kernel) (by decide +kernel) (by decide +kernel)
    (by first | exact .inl (by decide +kernel) | exact .inr (by decide +kernel)) (by rw [isSubtype_type]; kernel_rfl)
  entry := entryFor_alias (id' := "BaseException.__init__") (by rw [fastTable_eq_tree]; kernel_rfl) (by first | rfl | decide +kernel) (by decide +kernel) (by rw [fastTable_eq_tree]; kernel_rfl)
  split := by kernel_rfl
  kind := by kernel_rfl
  row := by kernel_rfl
  star := by decide
theorem store_KeyError : StoreFacts "KeyError" [.type "KeyError", .type "LookupError", .type "Exception", .type "BaseException", .type "object"] "object.__setattr__" "object" where
  mro := by kernel_rfl
  slot := .of (owner := "object") (n := "__setattr__") (by rw [typeLookup_type, builtinLookup_eq_fast]; kernel_rfl) (by decide +kernel) (by decide +kernel) (by decide +kernel)
    (by first | exact .inl (by decide +kernel) | exact .inr (by decide +kernel)) (by rw [isSubtype_type]; kernel_rfl)
  entry := F.store_IndexError.entry
  kind := by decide +kernel
  split := by decide +kernel
  hasOwner := by decide +kernel
  args := F.store_IndexError.args
  passes := fun self => by kernel_rfl
section
variable {prog : Program} {w : World} {A : Around} {R : Result → Shared → Prop} {h : Heap} {g : Array GenState} {d : Drawn} {t : Nat} {os : OsState}
variable {nm q : Str} {C N : Addr} {bs bm : List Value} {hdct : Bool} {sn : List Str} {sub : List Value} {ab : Bool} {col : Option Bool} {dd : Option Addr} {k0 k1 k2 k3 k5 : Option Value} {newId : String}
theorem x_base {B initId : String} {e t0 : Addr} {rest : List Value} (I : InitF B initId) (hC : h.get? C = some (excClassObj nm q C N bs bm hdct sn sub ab col dd k0 k1 k2 k3 k5 newId)) (hs : bm.contains (.type B) = true) (he : h.get? e = some (xObj C none t0)) (hz : rest.length ≤ sizeLine)
    (hq : ∀ h' t1, (∀ b o, b ≠ e → h.get? b = some o → h'.get? b = some o) → h'.get? e = some (xObj C none t1) → R (.ok (.ret .none)) ⟨h', g, d, t, os⟩) :
    codeAny (model prog w) A (.call (.builtin initId) ⟨.ref e :: rest, []⟩) R ⟨h, g, d, t, os⟩ := by
  have cb : (Value.ref C :: bm).contains (.type B) = true := by rw [List.contains_cons, hs, Bool.or_true]
  have ns := I.star
  refine codeAny_call_builtin I.slot.plain I.entry ?_
  simp only [checkBuiltinCall, I.kind, I.split, I.row]
  repeat (first | with_reducible refine wpAny_loadPart_at he ?_ | with_reducible refine wpAny_loadPart_at hC ?_ | (with_reducible refine wpAny_isSubtype_exc hC ?_; rw [cb]) | wp_step)
  refine wpAny_onRaise ?_
  rw [show ∀ (a b : String) (n : Nat), Bind.check ⟨.positional, "*", B, .self, [⟨"args", .varPos, false⟩]⟩ a b n (List.map (fun x => x.fst) ({ pos := Value.ref e :: rest } : Args).kw) = pure () from fun a b n => check_star_args _ _ _ _ _ _]
  refine wpAny_pure ?_
  wp_walk
  refine hq _ h.objs.size (fun b o hb ho => ?_) ?_
  · rw [Heap.get?_update_other _ _ (Ne.symm hb)]
    exact Heap.get?_push_of_some _ ho
  · rw [Heap.get?_update_self _ (Heap.get?_push_of_some _ he) rfl]
    rfl
end
/-! ### what the written part says of such a class -/
structure Bs (bmB : List Value) (newId B initId : String) : Prop where
  has : bmB.contains (.type B) = true
  nw : ∃ NB inN bmN, ExcBaseFacts NB newId inN bmN ∧ Tops NB bmB
  ini : InitF B initId
  st : ∃ Bx, StoreFacts Bx bmB "object.__setattr__" "object"
def bmV : List Value := [.type "ValueError", .type "Exception", .type "BaseException", .type "object"]
def bmI : List Value := [.type "IndexError", .type "LookupError", .type "Exception", .type "BaseException", .type "object"]
def bmK : List Value := [.type "KeyError", .type "LookupError", .type "Exception", .type "BaseException", .type "object"]
theorem bsV : Bs bmV "ValueError.__new__" "ValueError" "ValueError.__init__" := ⟨by decide +kernel, ⟨_, _, _, F.excBase_ValueError, by decide +kernel, by decide +kernel, by decide +kernel⟩, .of F.excBase_ValueError.toExcCallFacts, _, F.store_ValueError⟩
theorem bsI : Bs bmI "IndexError.__new__" "IndexError" "IndexError.__init__" := ⟨by decide +kernel, ⟨_, _, _, F.excBase_IndexError, by decide +kernel, by decide +kernel, by decide +kernel⟩, .of F.excBase_IndexError.toExcCallFacts, _, F.store_IndexError⟩
theorem bsK : Bs bmK "LookupError.__new__" "KeyError" "KeyError.__init__" := ⟨by decide +kernel, ⟨_, _, _, F.excBase_LookupError, by decide +kernel, by decide +kernel, by decide +kernel⟩, init_KeyError, _, store_KeyError⟩
structure XC (K : Frag) (C : Addr) (B initId : String) : Prop where
  made : ∃ bmB newId, Bs bmB newId B initId ∧ excInitIn K C bmB newId = true ∧ excOver K C bmB = true
  kp : keepIn K (.ref C) = true
  hd : hasDictIn K C = true
  sa : findIn K (.ref C) "__setattr__" = some (some (.builtin "object.__setattr__"))
  sb : subIn K (.ref C) (.type B) = some true
  ex : subIn K (.ref C) (.type "BaseException") = some true
  ga : findIn K (.ref C) "__getattribute__" = some (some (.builtin "BaseException.__getattribute__"))
  gg : findIn K (.ref C) "__getattr__" = some none
  ca : findIn K (.ref C) "__class__" = some (some (.builtin "object.__class__"))
  cn : specialIn K (.builtin "object.__class__") "__get__" = some (some (.builtin "getset_descriptor.__get__"))
  ct : takesIn K (.builtin "object.__class__") = some true
  mo : mroIn K C (.type "object") = some true
  ty : typeIn K (.ref C) = some (.type "type")
def xcB (K : Frag) (C : Addr) (bmB : List Value) (newId B : String) : Bool := excInitIn K C bmB newId && (excOver K C bmB && (keepIn K (.ref C) && (hasDictIn K C && (decide (findIn K (.ref C) "__setattr__" = some (some (.builtin "object.__setattr__"))) &&
  (decide (subIn K (.ref C) (.type B) = some true) && (decide (subIn K (.ref C) (.type "BaseException") = some true) && (decide (findIn K (.ref C) "__getattribute__" = some (some (.builtin "BaseException.__getattribute__"))) && (decide (findIn K (.ref C) "__getattr__" = some none) &&
  (decide (findIn K (.ref C) "__class__" = some (some (.builtin "object.__class__"))) && (decide (specialIn K (.builtin "object.__class__") "__get__" = some (some (.builtin "getset_descriptor.__get__"))) && (decide (takesIn K (.builtin "object.__class__") = some true) && (decide (mroIn K C (.type "object") = some true) &&
  decide (typeIn K (.ref C) = some (.type "type"))))))))))))))
theorem XC.of {K : Frag} {C : Addr} {bmB : List Value} {newId B initId : String} (b : Bs bmB newId B initId) (h : xcB K C bmB newId B = true) : XC K C B initId := by
  unfold xcB at h
  simp only [Bool.and_eq_true, decide_eq_true_eq] at h
  obtain ⟨h1, h2, h3, h4, h5, h6, h7, h8, h9, h10, h11, h12, h13, h14⟩ := h
  exact ⟨⟨bmB, newId, b, h1, h2⟩, h3, h4, h5, h6, h7, h8, h9, h10, h11, h12, h13, h14⟩
/-! ### an instance made -/
section
variable {X : Cx} {pins : List (Addr × Obj)} {σ : L2.St} {H : Hp} {s : Shared} {C : Addr} {B initId : String}
theorem Inv.exc {hp : Heap} {g : Array GenState} {dr : Drawn} {tk : Nat} {os : OsState} (us : List Value) (I : Inv X pins σ H ⟨hp, g, dr, tk, os⟩) :
    Inv X pins σ (upd H (hp.objs.size + 1) (exo (hp.objs.size + 1) C none)) ⟨xHeap hp C us, g, dr, tk, os⟩ :=
  I.laid (t' := tk) (a := hp.objs.size + 1) (o := exo (hp.objs.size + 1) C none) (h' := xHeap hp C us) (fun b o e => Heap.get?_push_of_some _ (Heap.get?_push_of_some _ e)) (Nat.le_succ _)
    (exo_ok (t1 := hp.objs.size) (show (xHeap hp C us).get? (hp.objs.size + 1) = some (xObj C none hp.objs.size) by heap_get))
/-- X(..), X without own __init__ -/
theorem run_xB {us : List Value} {Q : VK} (T : XC X.K C B initId) (hi : findIn X.K (.ref C) "__init__" = some (some (.builtin initId))) (I : Inv X pins σ H s) (hz : us.length ≤ sizeLine)
    (h : ∀ a, H a = none → Q (.ref a) (upd H a (exo a C none))) : wpAny (model X.prog X.w) X.A (call (.ref C) us) (EP X pins σ Q) X.xe s := by
  obtain ⟨bmB, newId, ⟨hB, ⟨NB, inN, bmN, FN, TN⟩, ini, _⟩, q1, q2⟩ := T.made
  obtain ⟨nm, N, qn, bs, bm, hdct, sn, sub, ab, col, dd, k0, k1, k2, k3, k5, hC, hT⟩ := excInit_of I.kIn q1
  obtain ⟨hp, g, dr, tk, os⟩ := s
  have hn : H (hp.objs.size + 1) = none := I.hok.fresh (Nat.le_succ _)
  have J := Inv.exc (C := C) us I
  have gx : (xHeap hp C us).get? (hp.objs.size + 1) = some (xObj C none hp.objs.size) := by heap_get
  refine wpAny_call (x_call FN ⟨by rw [hT]; exact TN.base, by rw [hT]; exact TN.att, by rw [hT]; exact TN.nme⟩ hC (looks_findIn I.kIn hi) (fun self => Looks.of_pure (ini.slot.bind self)) hz
    (x_base ini (Heap.get?_push_of_some _ (Heap.get?_push_of_some _ hC)) (by rw [hT]; exact hB) gx hz fun h' t1 k e' => ⟨rfl, .ref (hp.objs.size + 1), _, ?_, rfl, h _ hn⟩))
  exact I.laid (t' := tk) (a := hp.objs.size + 1) (o := exo (hp.objs.size + 1) C none) (h' := h') (fun b o e => k b o (Nat.ne_of_lt (Nat.lt_succ_of_lt (Heap.lt_size e))) (Heap.get?_push_of_some _ (Heap.get?_push_of_some _ e))) (Nat.le_succ _) (exo_ok e')
/-- X(..), X with own __init__ -/
theorem run_xN {CX : CXT} {k n : Nat} {f : Addr} {fd : FuncData} {ps ks : List Str} {sp : Sp} {E : XK} {g : List Value → List Value → List Value} {gV : List V → List V → List V} {Q : VK} {us ws : List Value} {vs zs : List V}
    (T : XC X.K C B initId) (iC : findIn X.K (.ref C) "__init__" = some (some (.ref f))) (tI : typeIn X.K (.ref f) = some (.type "function")) (F : FnOk X.prog X.w X.K X.mg X.base CX k f fd ps sp) (hr : Room (k + 1) X.A) (hb : KBn X.K fd ps (n + 1) ks g gV)
    (hx : Passes CX X E) (I : Inv X pins σ H s) (r : Vals vs us) (rz : Vals zs ws) (l1 : vs.length = n) (l2 : zs.length = ks.length) (hz : n ≤ 1000)
    (h : ∀ a, H a = none → sp (gV (.ref a :: vs) zs) (upd H a (exo a C none)) (fun v H2 => v = .non ∧ Q (.ref a) H2) E) :
    wpAny (model X.prog X.w) X.A (call (.ref C) us (ks.zip ws)) (EP X pins σ Q) X.xe s := by
  obtain ⟨bmB, newId, ⟨hB, ⟨NB, inN, bmN, FN, TN⟩, ini, _⟩, q1, q2⟩ := T.made
  obtain ⟨nm, N, qn, bs, bm, hdct, sn, sub, ab, col, dd, k0, k1, k2, k3, k5, hC, hT⟩ := excInit_of I.kIn q1
  obtain ⟨hp, g0, dr, tk, os⟩ := s
  have hn : H (hp.objs.size + 1) = none := I.hok.fresh (Nat.le_succ _)
  have hq := h _ hn
  have J := Inv.exc (C := C) us I
  have r1 : Vals (V.ref (hp.objs.size + 1) :: vs) (Value.ref (hp.objs.size + 1) :: us) := .cons rfl r
  have r2 := hb.rel r1 rz
  have e1 : (Value.ref (hp.objs.size + 1) :: us).length = n + 1 := r1.length.symm.trans (congrArg Nat.succ l1)
  have e2 : ws.length = ks.length := rz.length.symm.trans l2
  have hus : us.length ≤ sizeLine := by
    rw [← Paired.length r, sizeLine_eq]
    omega
  refine wpAny_call (x_call FN ⟨by rw [hT]; exact TN.base, by rw [hT]; exact TN.att, by rw [hT]; exact TN.nme⟩ hC (looks_findIn I.kIn iC) (fun self => bind_fn I.kIn self tI) hus
    (codeAny_mono (F.run _ X.stack _ _ ⟨Value.ref (hp.objs.size + 1) :: us, ks.zip ws⟩ (g (Value.ref (hp.objs.size + 1) :: us) ws) _ _ E (hr.make C us (ks.zip ws)) (J.env0.make C us (ks.zip ws)) (hb.to _ (Value.ref (hp.objs.size + 1) :: us) ws J.kIn e1 e2) r2 hq) fun r s' hq' => ?_))
  cases r with
  | error e => exact hx pins σ _ _ e s' J hq'
  | ok fl =>
    cases fl with
    | ret u =>
      obtain ⟨v, H', I3, rv, ev, q3⟩ := J.after hq'
      subst ev
      exact ⟨rv, ⟨V.ref (hp.objs.size + 1), H', I3, rfl, q3⟩⟩
    | next => exact False.elim hq'
    | brk => exact False.elim hq'
    | cont => exact False.elim hq'
end
def tXB (C : Addr) (t : TA) : TE := fun σ H Q => t σ H fun vs H1 => vs.length ≤ 1000 ∧ ∀ a, H1 a = none → Q (.ref a) (upd H1 a (exo a C none))
def tXN (C : Addr) (n m : Nat) (sp : Sp) (gV : List V → List V → List V) (E : XK) (t tk : TA) : TE := fun σ H Q => t σ H fun vs H1 => tk σ H1 fun zs H2 => vs.length = n ∧ zs.length = m ∧ n ≤ 1000 ∧
  ∀ a, H2 a = none → sp (gV (.ref a :: vs) zs) (upd H2 a (exo a C none)) (fun v H3 => v = .non ∧ Q (.ref a) H3) E
section
variable {X : Cx} {CX : CXT} {k n : Nat} {f C : Addr} {fd : FuncData} {ps ks : List Str} {sp : Sp} {E : XK} {x : Str} {p pos : Pos} {e : Expr} {es : List Expr} {kws : List Keyword} {t tk : TA} {g : List Value → List Value → List Value} {gV : List V → List V → List V} {B initId : String}
theorem pe_xB0 (T : XC X.K C B initId) (hi : findIn X.K (.ref C) "__init__" = some (some (.builtin initId))) (hg : Gl X x) (hm : X.mg x = some (.ref C)) (hdb : (x == ("__debug__" : Str)) = false := by decide) : PE X (.Call (.Name x p) [] [] pos) (tXB C tNil) := by
  refine ⟨fun pins s σ H Q I h => ?_⟩
  refine wpAny_Call_Name_kw (ld_glob I hg hm ?_ hdb)
  refine callWith_KW0 (h₀ := X.base) (kws := []) I.ok.mod.kin T.kp (by rfl) ?_ (by rfl)
  refine thn ((pk_nil (X := X)).run pos pins s σ H _ I h) fun ws s2 ⟨zs, H2, I2, rz, l1, q2⟩ => ⟨I2.kIn, ?_⟩
  exact run_xB T hi I2 (Nat.zero_le _) q2
theorem pe_xB (T : XC X.K C B initId) (hi : findIn X.K (.ref C) "__init__" = some (some (.builtin initId))) (hg : Gl X x) (hm : X.mg x = some (.ref C)) (ha : PA X (e :: es) t) (hdb : (x == ("__debug__" : Str)) = false := by decide)
    (he : starEach (e :: es) X.env = (false, eval e X.env) :: starEach es X.env := by rfl) (hpl : (backTo pos (starEach es X.env)).any (·.1) = false := by rfl) : PE X (.Call (.Name x p) (e :: es) [] pos) (tXB C t) := by
  refine ⟨fun pins s σ H Q I h => ?_⟩
  refine wpAny_Call_Name_kw (ld_glob I hg hm ?_ hdb)
  refine callWith_K (h₀ := X.base) I.ok.mod.kin T.kp (thn (ha.run pos pins s σ H _ I h) fun us s1 ⟨vs, H1, I1, r, l1, q⟩ => ⟨I1.kIn, ?_⟩) he hpl
  exact run_xB T hi I1 (show us.length ≤ sizeLine by rw [← Paired.length r, sizeLine_eq]; omega) q
theorem pe_xN (T : XC X.K C B initId) (iC : findIn X.K (.ref C) "__init__" = some (some (.ref f))) (tI : typeIn X.K (.ref f) = some (.type "function")) (F : FnOk X.prog X.w X.K X.mg X.base CX k f fd ps sp) (hr : Room (k + 1) X.A) (hg : Gl X x) (hm : X.mg x = some (.ref C)) (hb : KBn X.K fd ps (n + 1) ks g gV) (hx : Passes CX X E) (ha : PA X (e :: es) t) (hkw : PK X kws tk)
    (hall : (backToKw pos (keywordEach kws X.env)).all (·.1.isSome) = true := by rfl) (hks : (backToKw pos (keywordEach kws X.env)).filterMap (·.1) = ks := by rfl) (hdb : (x == ("__debug__" : Str)) = false := by decide)
    (he : starEach (e :: es) X.env = (false, eval e X.env) :: starEach es X.env := by rfl) (hpl : ((backTo pos (starEach (e :: es) X.env)).any (·.1) || (backToKw pos (keywordEach kws X.env)).any (·.1.isNone)) = false := by rfl) :
    PE X (.Call (.Name x p) (e :: es) kws pos) (tXN C n ks.length sp gV E t tk) := by
  refine ⟨fun pins s σ H Q I h => ?_⟩
  refine wpAny_Call_Name_kw (ld_glob I hg hm ?_ hdb)
  refine callWith_KW (h₀ := X.base) I.ok.mod.kin T.kp hall (thn (ha.run pos pins s σ H _ I h) fun us s1 ⟨vs, H1, I1, r, q⟩ => ?_) hpl he
  refine thn (hkw.run pos pins s1 σ H1 _ I1 q) fun ws s2 ⟨zs, H2, I2, rz, l1, l2, l3, q2⟩ => ⟨I2.kIn, ?_⟩
  rw [hks]
  exact run_xN T iC tI F hr hb hx I2 r rz l1 l2 l3 q2
theorem pe_xK (T : XC X.K C B initId) (iC : findIn X.K (.ref C) "__init__" = some (some (.ref f))) (tI : typeIn X.K (.ref f) = some (.type "function")) (F : FnOk X.prog X.w X.K X.mg X.base CX k f fd ps sp) (hr : Room (k + 1) X.A) (hg : Gl X x) (hm : X.mg x = some (.ref C)) (hb : KBn X.K fd ps 1 ks g gV) (hx : Passes CX X E) (hkw : PK X kws tk)
    (hall : (backToKw pos (keywordEach kws X.env)).all (·.1.isSome) = true := by rfl) (hks : (backToKw pos (keywordEach kws X.env)).filterMap (·.1) = ks := by rfl) (hdb : (x == ("__debug__" : Str)) = false := by decide)
    (hpl : ((backTo pos (starEach [] X.env)).any (·.1) || (backToKw pos (keywordEach kws X.env)).any (·.1.isNone)) = false := by rfl) :
    PE X (.Call (.Name x p) [] kws pos) (tXN C 0 ks.length sp gV E tNil tk) := by
  refine ⟨fun pins s σ H Q I h => ?_⟩
  refine wpAny_Call_Name_kw (ld_glob I hg hm ?_ hdb)
  refine callWith_KW0 (h₀ := X.base) I.ok.mod.kin T.kp hall ?_ hpl
  refine thn (hkw.run pos pins s σ H _ I h) fun ws s2 ⟨zs, H2, I2, rz, l1, l2, l3, q2⟩ => ⟨I2.kIn, ?_⟩
  rw [hks]
  exact run_xN (us := []) (vs := []) T iC tI F hr hb hx I2 .nil rz rfl l2 l3 q2
end
/-! ### self.f = y -/
section
variable {X : Cx} {pins : List (Addr × Obj)} {σ : L2.St} {H : Hp} {s : Shared} {a C dx : Addr} {f : Str} {y : V} {u : Value} {fs : List (Str × V)} {Q : Unit → Shared → Prop} {E : Value → Shared → Prop} {A : Around} {B initId : String}
theorem xst_new (T : XC X.K C B initId) (I : L2.Inv X pins σ H s) (e : H a = some (exo a C none)) (ht : takerIn X.K C f = some none) (ry : RelV y u)
    (h : ∀ dx s', H dx = none → dx ≠ a → L2.Inv X pins σ (upd (upd H dx (exd dx [(f, y)])) a (exo a C (some dx))) s' → Q () s') : wpAny (model X.prog X.w) A (setAttr (.ref a) f u) Q E s := by
  obtain ⟨bmB, newId, ⟨_, _, _, Bx, SF⟩, _, q2⟩ := T.made
  obtain ⟨t1, ho⟩ := exo_at I.hok e
  obtain ⟨cd, hc, hcd⟩ := any_some (show (clsIn X.K C).any (·.hasDict) = true from T.hd)
  obtain ⟨hp, g, d, t, os⟩ := s
  refine set_plain (od := none) I.kIn ⟨ho, rfl, rfl, trivial⟩ T.sa (osa_openX (od := none) SF I.kIn ⟨ho, rfl, rfl, trivial⟩ q2 ht fun b => ?_)
  have la : a < hp.objs.size := Heap.lt_size ho
  have nn : H hp.objs.size = none := I.hok.fresh (Nat.le_refl _)
  have g1 : ((hp.push (dictOf [] 0)).update a fun o => { o with dict := some hp.objs.size }).get? hp.objs.size = some (dictOf [] 0) := by
    rw [Heap.get?_update_other _ _ (Nat.ne_of_lt la)]
    exact Heap.get?_push_size hp rfl
  have g2 : ((hp.push (dictOf [] 0)).update a fun o => { o with dict := some hp.objs.size }).get? a = some (xObj C (some hp.objs.size) t1) := Heap.get?_update_self _ (Heap.get?_push_of_some _ ho) rfl
  refine wpAny_bind (wpAny_pure (wpAny_bind (instanceDict_exc (s := ⟨hp, g, d, t + 1, os⟩) ho (looks_clsIn I.kIn hc) hcd ?_)))
  show wpAny _ _ (storeInDict hp.objs.size (.str f _) f u) _ _ _
  refine HandSPX.store_in_new ⟨_, #[], _, g1, rfl, fun e he => absurd he (by simp), fun _ => rfl⟩ fun h' tk' hn hs => ?_
  have other : ∀ b o, b ≠ a → hp.get? b = some o → h'.get? b = some o := fun b o hb eo => by
    rw [hs.2 b (Nat.ne_of_lt (Heap.lt_size eo)), Heap.get?_update_other _ _ (Ne.symm hb)]
    exact Heap.get?_push_of_some _ eo
  have ga : h'.get? a = some (xObj C (some hp.objs.size) t1) := (hs.2 a (Nat.ne_of_lt la)).trans g2
  have na : ∀ {b : Addr}, H b = none → b ≠ a := fun {b} n z => by
    rw [z, e] at n
    cases n
  have nd : ∀ {b : Addr} {o : Obj}, hp.get? b = some o → b ≠ hp.objs.size := fun q => Nat.ne_of_lt (Heap.lt_size q)
  have U : Un X.fs [] H (upd (upd H hp.objs.size (exd hp.objs.size [(f, y)])) a (exo a C (some hp.objs.size))) hp h' := {
    keep := fun b o q n _ _ => other b o (na n) q
    slot := fun b o q n _ _ => ⟨o.slots, other b o (na n) q⟩
    free := fun b o q n _ => by rw [upd_ne (na n), upd_ne (nd q)]; exact n
    there := fun b o q _ => by
      by_cases hb : b = a
      · exact ⟨_, by rw [hb]; exact ga⟩
      · exact ⟨o, other b o hb q⟩
    tups := fun b xs q => by rw [upd_ne (at_ne e q exo_tup), upd_ne (ne_of_none q nn)]; exact q
    frzs := fun b o v q => by rw [upd_ne (at_ne e q exo_frz), upd_ne (ne_of_none q nn)]; exact q
    tbls := fun b ps q => ⟨#[], by rw [upd_ne (at_ne e q exo_tbl), upd_ne (ne_of_none q nn), q]; simp⟩ }
  refine h hp.objs.size ⟨h', g, d, tk', os⟩ nn (Nat.ne_of_gt la) (I.un (t' := tk') U fun b o q => ?_)
  by_cases hb : b = a
  · subst hb
    rw [upd_same] at q
    cases q
    exact exo_ok ga
  · rw [upd_ne hb] at q
    by_cases hd : b = hp.objs.size
    · subst hd
      rw [upd_same] at q
      cases q
      exact exd_ok hn (relO_put (fs := []) ry fun g => True.intro)
    · rw [upd_ne hd] at q
      exact (I.hok b o q).stay (fun c v hc z => other c v (by
          rcases hc with hc | hc
          · rw [hc]
            exact hb
          · exact at_ne e hc exo_own) z)
        (fun c hc => by rw [upd_ne (at_ne e hc exo_own), upd_ne (ne_of_none hc nn)]; exact hc) (fun c xs hc => by rw [upd_ne (at_ne e hc exo_tup), upd_ne (ne_of_none hc nn)]; exact hc)
theorem xst_old (T : XC X.K C B initId) (I : L2.Inv X pins σ H s) (e : H a = some (exo a C (some dx))) (ed : H dx = some (exd dx fs)) (hl : fs.length ≤ 900) (ht : takerIn X.K C f = some none) (ry : RelV y u)
    (h : ∀ s', L2.Inv X pins σ (upd H dx (exd dx ((f, y) :: fs))) s' → Q () s') : wpAny (model X.prog X.w) A (setAttr (.ref a) f u) Q E s := by
  obtain ⟨bmB, newId, ⟨_, _, _, Bx, SF⟩, _, q2⟩ := T.made
  obtain ⟨t1, ho⟩ := exo_at I.hok e
  obtain ⟨mA, hns, rel⟩ := exd_at I.hok ed
  have hw := within_of rel
  obtain ⟨cd, hc, hcd⟩ := any_some (show (clsIn X.K C).any (·.hasDict) = true from T.hd)
  obtain ⟨hp, g, d, t, os⟩ := s
  obtain ⟨oD, _, _, hoD, _, _⟩ := hns.count hw
  refine set_plain (od := some oD) I.kIn ⟨ho, rfl, rfl, hoD⟩ T.sa (osa_openX (od := some oD) SF I.kIn ⟨ho, rfl, rfl, hoD⟩ q2 ht fun b => ?_)
  refine wpAny_bind (wpAny_pure (wpAny_bind (wpAny_bind (wpAny_loadPart ho (wpAny_bind ((looks_clsIn I.kIn hc).at ?_))))))
  rw [hcd]
  refine wpAny_pure (a := some dx) ?_
  refine OEX.store_in_old hns hw (by rw [List.length_map]; omega) fun h' tk' hn hs => ?_
  have there : ∃ o, h'.get? dx = some o := by
    obtain ⟨o, _, _, e', _⟩ := hn
    exact ⟨o, e'⟩
  exact h _ (I.write (t' := tk') (x := dx) (e := dx) (o := exd dx ((f, y) :: fs)) (by rw [ed]; exact True.intro) (.inl rfl) (fun b o hb q => (hs.2 b hb).trans q) there (exd_ok hn (relO_put ry rel)))
/-- X.__init__(self, ..), X built in -/
theorem xinit_ok {us : List Value} {Q : Value → Shared → Prop} (T : XC X.K C B initId) (I : L2.Inv X pins σ H s) (e : H a = some (exo a C none)) (hl : us.length ≤ sizeLine) (h : ∀ s', L2.Inv X pins σ H s' → Q .none s') :
    wpAny (model X.prog X.w) A (call (.builtin initId) (.ref a :: us)) Q E s := by
  obtain ⟨bmB, newId, ⟨hB, _, ini, _⟩, q1, _⟩ := T.made
  obtain ⟨nm, N, qn, bs, bm, hdct, sn, sub, ab, col, dd, k0, k1, k2, k3, k5, hC, hT⟩ := excInit_of I.kIn q1
  obtain ⟨t1, ho⟩ := exo_at I.hok e
  obtain ⟨hp, g, d, t, os⟩ := s
  refine wpAny_call (x_base ini hC (by rw [hT]; exact hB) ho hl fun h' t2 k hx => ?_)
  have J := I.write (t' := t) (x := a) (e := a) (o := exo a C none) (by rw [e]; exact True.intro) (.inl rfl) k ⟨_, hx⟩ (exo_ok hx)
  have eu : upd H a (exo a C none) = H := by
    funext b
    by_cases hb : b = a
    · rw [hb, upd_same, e]
    · rw [upd_ne hb]
  rw [eu] at J
  exact h _ J
end
def tXst (K : Frag) (f : Str) (to te : TE) : TS := fun D σ H => te σ H fun y H1 => to σ H1 fun x H2 => ∃ (a C : Addr) (B ini : String), x = .ref a ∧ XC K C B ini ∧ takerIn K C f = some none ∧
  ((H2 a = some (exo a C none) ∧ ∀ dx, H2 dx = none → dx ≠ a → D.nx σ (upd (upd H2 dx (exd dx [(f, y)])) a (exo a C (some dx)))) ∨
    ∃ (dx : Addr) (fs : List (Str × V)), H2 a = some (exo a C (some dx)) ∧ H2 dx = some (exd dx fs) ∧ fs.length ≤ 900 ∧ D.nx σ (upd H2 dx (exd dx ((f, y) :: fs))))
def tXI (K : Frag) (initId : String) (ta : TA) : TE := fun σ H Q => ta σ H fun vs H1 => ∃ (a C : Addr) (B : String) (ws : List V), vs = .ref a :: ws ∧ ws.length ≤ 1000 ∧ XC K C B initId ∧ H1 a = some (exo a C none) ∧ Q .non H1
def tXF (K : Frag) (n : Str) (te : TE) : TE := fun σ H Q => te σ H fun x H1 => ∃ (a C : Addr) (B ini : String) (dx : Addr) (fs : List (Str × V)) (v : V), x = .ref a ∧ XC K C B ini ∧ findIn K (.ref C) n = some none ∧ H1 a = some (exo a C (some dx)) ∧ H1 dx = some (exd dx fs) ∧ fs.lookup n = some v ∧ Q v H1
/-- an exception's object, with a dict or none -/
def IsX (H : Hp) (a C : Addr) : Prop := H a = some (exo a C none) ∨ ∃ dx fs, H a = some (exo a C (some dx)) ∧ H dx = some (exd dx fs)
def rIsX (K : Frag) : List V → Hp → VK → Prop := fun xs H Q => ∃ (a C : Addr) (B ini : String) (c : V) (u : Value) (b : Bool), xs = [.ref a, c] ∧ IsX H a C ∧ XC K C B ini ∧ ClsV c u ∧ kitOne K (.ref C) u = some b ∧ Q (.bl b) H
section
variable {X : Cx} {o e : Expr} {es : List Expr} {to te : TE} {ta : TA} {f : Str} {p p' p1 p2 pos : Pos}
theorem ps_xst (ho : PE X o to) (he : PE X e te) (hs : swapsWith e (some (.Attribute o f p')) pos.line X.env = pure false := by rfl) : PS X (.Assign [.Attribute o f p'] e pos) (tXst X.K f to te) := by
  refine ⟨fun pins s σ H D I h => ?_⟩
  refine plainObj_wpAny_Assign_Attribute (thn (he.run pins s σ H _ I h) fun v s1 ⟨y, H1, I1, r1, q1⟩ => thn (ho.run pins s1 σ H1 _ I1 q1) fun u s2 ⟨x, H2, I2, r2, a, C, B, ini, ex, T, ht, q⟩ => ?_) hs
  subst ex
  obtain rfl : u = Value.ref a := r2
  rcases q with ⟨ea, q⟩ | ⟨dx, fs, ea, ed, hl, q⟩
  · exact xst_new T I2 ea ht r1 fun dx s' n ne J => ⟨σ, _, J, q dx n ne⟩
  · exact xst_old T I2 ea ed hl ht r1 fun s' J => ⟨σ, _, J, q⟩
/-- C.__init__(self, ..), C an own class without own __init__ -/
theorem pe_xinitC {x : Str} {C : Addr} {mc : Value} {initId : String} {pl : Sem Bool} (hg : Gl X x) (hm : X.mg x = some (.ref C)) (rd : readsIn X.K C mc = true) (gc : specialIn X.K (.ref C) "__getattribute__" = some (some (.builtin "type.__getattribute__")))
    (vV : findCls X.K (.ref C) mc "__init__" = some (.val (.builtin initId))) (hh : handedIn (.builtin initId) = true) (ha : PA X (e :: es) ta)
    (hc : eval (.Call (.Attribute (.Name x p1) "__init__" p2) (e :: es) [] pos) X.env = (do
      let ov ← eval (.Name x p1) X.env
      standAt p2.atName
      let (f, first) ← holding [ov] (getMethod ov "__init__" pl)
      callWith pos f first (backTo pos (starEach (e :: es) X.env)) (backToKw pos (keywordEach [] X.env))) := by rfl)
    (hdb : (x == ("__debug__" : Str)) = false := by decide) (he : starEach (e :: es) X.env = (false, eval e X.env) :: starEach es X.env := by rfl) (hpl : (backTo pos (starEach es X.env)).any (·.1) = false := by rfl) :
    PE X (.Call (.Attribute (.Name x p1) "__init__" p2) (e :: es) [] pos) (tXI X.K initId ta) := by
  refine ⟨fun pins s σ H Q I h => ?_⟩
  refine methodCall_KW (ld_glob I hg hm ?_ hdb) hc
  refine method_cls I.kIn gc (cls_value I.kIn rd vV hh ?_)
  show wpAny _ _ (callWith pos (Value.builtin initId) [] (backTo pos (starEach (e :: es) X.env)) []) _ _ _
  refine callWith_method1 (thn (ha.run pos pins _ σ H _ (I.tok _) h) fun us s1 ⟨vs, H1, I1, r1, a, C', B, ws, ev, hl, T, ea, q⟩ => ?_) he hpl
  subst ev
  cases r1 with
  | @cons _ u0 _ ur ra rw' =>
    obtain rfl : u0 = Value.ref a := ra
    have hlen : ur.length ≤ sizeLine := by
      rw [← Paired.length rw', sizeLine_eq]
      omega
    exact xinit_ok T I1 ea hlen fun s' J => ⟨.non, H1, J, rfl, q⟩
/-- B.__init__(self, ..), B a built-in class -/
theorem pe_xinitT {B initId : String} {x : Str} {pl : Sem Bool} (hg : Gl X x) (hm : X.mg x = none) (hv : bootBuiltins x = some (.type B)) (ht : typeOf (.type B) = pure (.type "type")) (hst : Manifest.isStub B = false) (vV : findCls X.K (.type B) (.type "type") "__init__" = some (.val (.builtin initId))) (hh : handedIn (.builtin initId) = true) (ha : PA X (e :: es) ta)
    (hc : eval (.Call (.Attribute (.Name x p1) "__init__" p2) (e :: es) [] pos) X.env = (do
      let ov ← eval (.Name x p1) X.env
      standAt p2.atName
      let (f, first) ← holding [ov] (getMethod ov "__init__" pl)
      callWith pos f first (backTo pos (starEach (e :: es) X.env)) (backToKw pos (keywordEach [] X.env))) := by rfl)
    (hn : x ≠ "__name__" := by decide) (hdb : (x == ("__debug__" : Str)) = false := by decide) (he : starEach (e :: es) X.env = (false, eval e X.env) :: starEach es X.env := by rfl) (hpl : (backTo pos (starEach es X.env)).any (·.1) = false := by rfl) :
    PE X (.Call (.Attribute (.Name x p1) "__init__" p2) (e :: es) [] pos) (tXI X.K initId ta) := by
  refine ⟨fun pins s σ H Q I h => ?_⟩
  refine methodCall_KW (ld_blt I hg hm hv ?_ hn hdb) hc
  obtain ⟨m, fr⟩ := I.fr
  refine method_type fr I.ok.mod.kin ht hst vV hh ?_
  show wpAny _ _ (callWith pos (Value.builtin initId) [] (backTo pos (starEach (e :: es) X.env)) []) _ _ _
  refine callWith_method1 (thn (ha.run pos pins _ σ H _ (I.tok _) h) fun us s1 ⟨vs, H1, I1, r1, a, C', B', ws, ev, hl, T, ea, q⟩ => ?_) he hpl
  subst ev
  cases r1 with
  | @cons _ u0 _ ur ra rw' =>
    obtain rfl : u0 = Value.ref a := ra
    have hlen : ur.length ≤ sizeLine := by
      rw [← Paired.length rw', sizeLine_eq]
      omega
    exact xinit_ok T I1 ea hlen fun s' J => ⟨.non, H1, J, rfl, q⟩
/-- e.n -/
theorem pe_xfld {n : Str} (he : PE X e te) (hb : attributeBase e n X.env (eval e X.env) = eval e X.env := by rfl) : PE X (.Attribute e n pos) (tXF X.K n te) := by
  refine ⟨fun pins s σ H Q I h => ?_⟩
  refine attr_of hb (thn (he.run pins s σ H _ I h) fun u s1 hh => ?_)
  obtain ⟨x, H1, I1, rx, a, C, B, ini, dx, fs, v, ex, T, hno, ea, ed, l, q⟩ := hh
  subst ex
  obtain rfl : u = Value.ref a := rx
  obtain ⟨t1, ho⟩ := exo_at I1.hok ea
  obtain ⟨mA, hns, hr⟩ := exd_at I1.hok ed
  obtain ⟨od, hd, hl⟩ := lookIn_ns hns
  obtain ⟨u, hu, ru⟩ := RelO.some_of (v := v) (o := mA n) (by rw [← l]; exact hr n)
  exact HandSPX.exc_get I1.kIn ⟨ho, rfl, rfl, hd⟩ T.ga T.gg T.ex (findObj_own T.hd hno rfl (by rw [hl, hu])) (handed_of ru) ⟨v, H1, I1.tok _, ru, q⟩
theorem call_isX : CallR X (.builtin "isinstance") (rIsX X.K) := by
  intro pins s σ H xs us Q I r h
  obtain ⟨a, C, B, ini, c, u, b, rfl, ix, T, k, e, q⟩ := h
  obtain ⟨u1, u2, rfl, r1, r2⟩ := vals2 r
  have e2 := k.eq r2
  subst e2
  cases (show u1 = Value.ref a from r1)
  obtain ⟨cd, hc, _⟩ := any_some (show (clsIn X.K C).any (·.hasDict) = true from T.hd)
  have hcl : (clsIn X.K C).isSome = true := by rw [hc]; rfl
  have ⟨ox, od, J⟩ : ∃ ox od, InstAt s.heap a ox C od := by
    rcases ix with ea | ⟨dx, fs, ea, ed⟩
    · obtain ⟨t1, ho⟩ := exo_at I.hok ea
      exact ⟨_, none, ho, rfl, rfl, trivial⟩
    · obtain ⟨t1, ho⟩ := exo_at I.hok ea
      obtain ⟨mA, hns, hr⟩ := exd_at I.hok ed
      obtain ⟨od, hd, hl⟩ := lookIn_ns hns
      exact ⟨_, some od, ho, rfl, rfl, hd⟩
  exact kia_one (kitx_exc hcl T.ga T.gg T.ex T.ca T.cn T.ct T.mo) I.kIn J e (fun z => nomatch z) fun tk => ⟨.bl b, H, I.tok tk, rfl, q⟩
end
/-! ### t[::-1] of a triple -/
section
variable {prog : Program} {w : World} {A : Around} {E : Value → Shared → Prop} {s : Shared}
theorem getItem_rev3 {t sl : Addr} {x y z : Value} {u : Tok} {Q : Value → Shared → Prop} (ht : IsTup s.heap t #[x, y, z]) (hs : s.heap.IsSliceOf sl .none .none (.int (-1) u))
    (h : Q (.ref s.heap.objs.size) { s with heap := s.heap.push { cls := .type "tuple", data := .seq #[z, y, x] } }) : wpAny (model prog w) A (getItem (.ref t) (.ref sl)) Q E s := by
  obtain ⟨os, hos, hcs, hds⟩ := id hs
  have hTs : s.TypeIs (.ref sl) "slice" := ⟨os, hos, hcs⟩
  unfold getItem
  try with_reducible refine wpAny_holding ?_
  first | refine wpAny_bind (wpAny_pure ?_) | skip
  refine wpAny_bind (wpAny_sequenceKey ht.typeIs (by decide) ?_)
  refine wpAny_bind (wpAny_callSpecial?_slot (name := Str.ofString "__getitem__") ht.typeIs PyProof.Rows.slot_tuple_getitem
    (wpAny_call_entry PyProof.Rows.slot_tuple_getitem ht.typeIs entry_tuple_getitem ?_ (args_tuple_getitem _ _)))
  show wpAny _ _ (Builtin.Tuple.tupleItemsOf (.ref t) >>= _) _ _ s
  refine wpAny_bind (tupleItemsOf_ ht ?_)
  refine wpAny_bind (wpAny_typeOf hTs ?_)
  rw [if_pos (by decide)]
  refine wpAny_bind ?_
  unfold Builtin.Slice.sliceApplied Builtin.Slice.sliceFields
  refine wpAny_bind (wpAny_bind (wpAny_field hos hds (x := .none) rfl (wpAny_bind (wpAny_field hos hds (x := .none) rfl (wpAny_bind (wpAny_field hos hds (x := .int (-1) u) rfl (wpAny_pure ?_)))))))
  refine wpAny_bind (HT.slicePart_ (.int (-1) u) ?_)
  show wpAny _ _ (if ((-1 : Int) == 0) = true then _ else _) _ _ s
  rw [if_neg (by decide)]
  refine wpAny_bind (HT.slicePart_ .none (wpAny_bind (HT.slicePart_ .none (wpAny_bind (wpAny_pure ?_)))))
  refine wpAny_of_eq (a := ((2 : Int), (-1 : Int), 3)) (by first | rfl | kernel_rfl) ?_
  show wpAny _ _ (if ((2 : Int) == 0 && (-1 : Int) == 1 && (3 : Nat) == 3) = true then _ else _) _ _ s
  rw [if_neg (by decide)]
  have hsz : sizeOk (.seq #[z, y, x]) := by
    show 3 ≤ sizeLine
    decide
  show wpAny _ _ (Builtin.Tuple.tupleExact #[z, y, x] >>= _) _ _ s
  first
    | exact wpAny_bind (m := Builtin.Tuple.tupleExact _) (wpAny_newObj_type (wpAny_pure ⟨_, rfl, wpAny_pure h⟩) hsz)
    | exact wpAny_bind (m := Builtin.Tuple.tupleExact _) (wpAny_newObj_type (wpAny_bind (wpAny_pure (wpAny_pure ⟨_, rfl, wpAny_pure h⟩))) hsz)
end
def tRev3 (K : Frag) (te : TE) : TE := fun σ H Q => te σ H fun v H1 => ∃ a x y z, v = .ref a ∧ SqT K H1 a [x, y, z] ∧ ∀ p, H1 p = none → Q (.ref p) (upd H1 p (.tup [z, y, x]))
theorem pe_rev3 {X : Cx} (K : Frag) (hK : X.K = K) {e : Expr} {te : TE} {k : Nat} {p1 p2 p3 pos : Pos} (he : PE X e te) : PE X (.Subscript e (.Slice none none (some (.UnaryOp .USub (.Constant (.int 1) k p1) p2)) p3) pos) (tRev3 K te) := by
  subst hK
  refine ⟨fun pins s σ H Q I h => ?_⟩
  refine Subscript_ (thn (he.run pins s σ H _ I h) fun v s1 ⟨w, H1, I1, r1, q1⟩ => ?_)
  obtain ⟨a, x, y, z, ex, hx, q⟩ := q1
  subst ex
  cases r1
  have hst : PO X (some (.UnaryOp .USub (.Constant (.int 1) k p1) p2)) (tPart (tUn (rU fun i => .int (-i)) (tC (.int 1)))) := po_some (pe_un un_neg pe_int)
  refine wpAny_Slice (thn (po_none.run pins s1 σ H1 (fun o H2 => o = none ∧ H2 = H1) I1 ⟨rfl, rfl⟩) fun vl s2 ⟨l, H2, I2, pl, el, e2⟩ => ?_)
  subst el e2
  cases pl
  refine thn (po_none.run pins s2 σ H2 (fun o H3 => o = none ∧ H3 = H2) I2 ⟨rfl, rfl⟩) fun vu s3 ⟨u, H3, I3, pu, eu, e3⟩ => ?_
  subst eu e3
  cases pu
  refine thn (hst.run pins s3 σ H3 (fun o H4 => o = some (-1) ∧ H4 = H3) I3 ⟨1, rfl, -1, rfl, rfl, rfl⟩) fun vs s4 ⟨o, H4, I4, ps, eo, e4⟩ => ?_
  subst eo e4
  cases ps with
  | int i t =>
    have I5 : L2.Inv X pins σ H4 { s4 with heap := s4.heap.push { cls := .type "slice", data := .fields #[.none, .none, .int (-1) t] } } := I4.kept (t' := s4.toks) fun b ob q => Heap.get?_push_of_some _ q
    obtain ⟨its, r, ht, hz⟩ := I5.tuple hx
    obtain ⟨u1, u2, u3, rfl, r1, r2, r3⟩ : ∃ u1 u2 u3, its = [u1, u2, u3] ∧ RelV x u1 ∧ RelV y u2 ∧ RelV z u3 := by
      cases r with
      | cons r1 r => cases r with
        | cons r2 r => cases r with
          | cons r3 r => cases r; exact ⟨_, _, _, rfl, r1, r2, r3⟩
    show wpAny (model X.prog X.w) X.A (subscriptTail e (.Slice none none (some (.UnaryOp .USub (.Constant (.int 1) k p1) p2)) p3) (.ref a) (.ref s4.heap.objs.size)) (EP X pins σ Q) X.xe { s4 with heap := s4.heap.push { cls := .type "slice", data := .fields #[.none, .none, .int (-1) t] } }
    refine tail_any (ops := [.ref a, .ref s4.heap.objs.size]) ht.typeIs PyProof.Rows.slot_tuple_getitem.lookup ?_ (by with_unfolding_all rfl)
    refine getItem_rev3 ht (Heap.IsSliceOf.new _ .none .none (.int (-1) t)) ?_
    refine ⟨.ref _, _, I5.laid (t' := s4.toks) (o := .tup [z, y, x]) (fun b ob q => Heap.get?_push_of_some _ q) (Nat.le_refl _) ?_, rfl, q _ (I5.hok.fresh (Nat.le_refl _))⟩
    exact ⟨by show 3 ≤ sizeLine; decide, [u3, u2, u1], .cons r3 (.cons r2 (.cons r1 .nil)), IsTup.new _ _⟩
/-! ### loops and comprehensions, further -/
section
variable {K : Frag} {σ : L2.St} {F H : Hp} {D : L2.Ends} {tl te : TE} {t : TT} {tz tbd : TS} {j k : Nat} {ds : List PyData} {tA : TA}
/-- for i, x in enumerate(xs) -/
theorem s_forE {a : Addr} {xs : List V} (h : ∀ Q : List V → Hp → Prop, (∀ F1 H1, Fr M0 F H F1 H1 → Q [.ref a] H1) → tA σ H Q) (s : Same F H) (ex : F a = some (.lst xs))
    (kk : ∀ F1 H1, Fr M0 F H F1 H1 → ∃ Pv : Nat → L2.St → Hp → Prop, Pv 0 σ H1 ∧ (∀ i σ' H', Pv i σ' H' → Same F H') ∧
      (∀ i x T σ' H', xs[i]? = some x → Pv i σ' H' → H' T = none → tbd { D with nx := Pv (i + 1), ct := Pv (i + 1), bk := tz D } ((σ'.set j (some (.int (i : Int)))).set k (some x)) (upd H' T (.tup [.int (i : Int), x]))) ∧ (∀ σ' H', Pv xs.length σ' H' → tz D σ' H')) :
    tSeq (tFor (iEnum K tA) (gTup K 2 (gCons (gName j) (gCons (gName k) gNil))) tbd) tz D σ H := h _ fun F1 H1 f1 => by
  obtain ⟨Pv, h0, hs, ht, he⟩ := kk F1 H1 f1
  refine ⟨a, xs, rfl, SqL.of (f1.fh _ _ (f1.ff _ _ ex)), for_it (D := { D with nx := tz D }) (walk_enum (xs := xs)) Pv h0 (fun i σ' H' _ p => SqL.of (hs i σ' H' p _ _ ex)) (fun i x σ' H' H'' hi p y => ?_) he⟩
  obtain ⟨T, x1, y1, rfl, nT, rfl, e1, e2⟩ := y
  cases e1
  exact ⟨T, [.int (i : Int), y1], rfl, SqT.of upd_same, rfl, _, _, rfl, _, _, rfl, rfl, ht i y1 T σ' H' e2 p nT⟩
/-- [.. for i in range(n)] of data, no condition -/
theorem eo_lcR {n : Nat} {vs : List Nat} (g : Nat → PyData) (h : EvA tA σ F [.int (n : Int)]) (hn : n ≤ 100000) (hw : ∀ x, wipe ((wipe σ vs).set j (some x)) vs = wipe σ vs)
    (he : ∀ (i : Nat) F1, i < n → Same F F1 → EvF te ((wipe σ vs).set j (some (.int (i : Int)))) F1 (g i)) : EvO (tLc (iRng1 tA) (gName j) tYes te vs) σ F ((List.range n).map g) := fun H0 s Q q => h H0 s _ fun zs F1 H1 f1 dz => by
  cases dz with
  | cons d1 dz =>
    cases dz
    cases d1.intE
    refine ⟨(n : Int), rfl, by omega, by omega, fun Dl nD => ?_⟩
    refine lc_range (lo := 0) (n := (n : Int).toNat) (fun i H' => ∃ F' vs', Fr (fun a => a = Dl) F1 (upd H1 Dl (.lst [])) F' H' ∧ H' Dl = some (.lst vs') ∧ DqAll F' vs' ((List.range i).map g)) ?_ ?_ ?_
    · exact ⟨F1, [], Fr.refl (fun a o e => by rw [upd_ne (ne_of_none (f1.fh _ _ e) nD)]; exact f1.fh _ _ e), upd_same, .nil⟩
    · rintro i H' hi ⟨F', vs', fr, hD, dvs⟩
      have hi' : i < n := by omega
      refine ⟨hw _, ?_⟩
      have nDF : F' Dl = none := fr.nw Dl _ (f1.fh.free nD) upd_same
      have e0 : (0 : Int) + (i : Int) = (i : Int) := Int.zero_add _
      show te ((wipe σ vs).set j (some (.int ((0 : Int) + (i : Int))))) H' _
      rw [e0]
      refine he i F' hi' (fun a o e => fr.ff _ _ (f1.ff _ _ e)) H' fr.fh _ fun v F3 H3 f3 dv3 => ?_
      have hD3 : H3 Dl = some (.lst vs') := f3.hh _ _ hD fun z => z
      have nD3 : F3 Dl = none := f3.nw _ _ nDF hD
      have hl : vs'.length = i := by rw [dvs.length, List.length_map, List.length_range]
      refine ⟨vs', hD3, by rw [hl, sizeLine_eq]; omega, F3, vs' ++ [v], (fr.trans f3.up).trans (Fr.put f3.fh nD3 rfl), upd_same, ?_⟩
      rw [List.range_succ, List.map_append]
      exact (dvs.mono f3.ff).append (.cons dv3 .nil)
    · rintro H' ⟨F', vs', fr, hD, dvs⟩
      rw [Int.toNat_natCast] at dvs
      exact q Dl vs' F' H' (f1.trans (fr.unown nD fun a z => .inl z)) (f1.st _ nD) (fr.nw Dl _ (f1.fh.free nD) upd_same) hD dvs
end
end Lx

set_option Elab.async false
set_option linter.all false
set_option maxRecDepth 100000
set_option maxHeartbeats 4000000
/-! Lc: comprehensions of lists, sets and dicts with any number of clauses, over the hand layer. -/
namespace Lc
open PySem PySem.Spec PyProof.Rows L2

/-- which comprehension, and its element -/
inductive Kd where
  | list (elt : Expr)
  | set (elt : Expr)
  | dict (kx vx : Expr)
def Kd.expr : Kd → List Comprehension → Scope → Pos → Expr
  | .list elt, gs, sc, p => .ListComp elt gs sc p
  | .set elt, gs, sc, p => .SetComp elt gs sc p
  | .dict kx vx, gs, sc, p => .DictComp kx vx gs sc p
/-- what the innermost turn does -/
def Kd.emit : Kd → Env → Value → Sem Unit
  | .list elt, env, acc => do let _ ← call (.builtin "list.append") [acc, ← eval elt env]
  | .set elt, env, acc => do let v ← eval elt env; standAt elt.pos; let _ ← call (.builtin "set.add") [acc, v]
  | .dict kx vx, env, acc => do
        let kv ← eval kx env
        let vv ← holding [kv] (eval vx env)
        match acc with
        | .ref d => do
          standAt { kx.pos with endLine := vx.pos.endLine, endCol := vx.pos.endCol }
          holding [kv, vv] (dictSet d kv vv)
        | _ => unsupported "internal:dictcomp"
/-- what stands within the tests of the clause at a depth -/
def inner (kd : Kd) (gs : List Comprehension) (sc : Scope) (p : Pos) (d : Nat) (acc : Value) (env : Env) : Sem Unit :=
  match gs[d]? with
  | some g' => do
        let x ← eval g'.iter env
        standAt g'.iter.pos
        let x ← if g'.is_async != 0 then foldedIterable g'.iter x else foldedSetIterable g'.iter env x
        let _ ← runOwn (.compStart (kd.expr gs sc p) d (← holding [x] (if g'.is_async != 0 then asyncIter x else pyIter x)) acc env) env
  | none => kd.emit env acc
theorem turn_eq (kd : Kd) (gs : List Comprehension) (sc : Scope) (p : Pos) (d : Nat) (it acc : Value) (env : Env) {tg iter : Expr} {ifs : List Expr} (h : gs[d]? = some ⟨tg, iter, ifs, 0⟩) (ha : ∀ g' ∈ gs, g'.is_async = 0) :
    compTurn (kd.expr gs sc p) d it acc env = (do
      standAt iter.pos
      match ← pyNext it with
      | none => pure (.done .next)
      | some v =>
        letOwnedTupleGo tg it v
        assign tg env v
        let mut ok := true
        for c in ifs do
          if ok then ok ← isTrue c env (eval c env)
        if ok then
          inner kd gs sc p (d + 1) acc env
        again (.compLoop (kd.expr gs sc p) d it acc env)) := by
  unfold inner
  cases h2 : gs[d + 1]? with
  | none => cases kd <;> (unfold compTurn Kd.expr; simp only [h]; rw [h2]; first | rfl | (simp only [bind_assoc]; rfl))
  | some g' =>
    obtain ⟨tg', iter', ifs', n⟩ := g'
    have hz : n = 0 := ha _ (List.mem_of_getElem? h2)
    subst hz
    have z : ((0 : Int) != 0) = false := rfl
    cases kd <;> (unfold compTurn Kd.expr; simp only [h]; rw [h2]; simp only [z, Bool.false_eq_true, if_false, bind_assoc]; try rfl)
theorem inner_more (kd : Kd) (gs : List Comprehension) (sc : Scope) (p : Pos) (d : Nat) (acc : Value) (env : Env) {tg iter : Expr} {ifs : List Expr} (h : gs[d]? = some ⟨tg, iter, ifs, 0⟩) :
    inner kd gs sc p d acc env = (do
        let x ← eval iter env
        standAt iter.pos
        let x ← foldedSetIterable iter env x
        let _ ← runOwn (.compStart (kd.expr gs sc p) d (← holding [x] (pyIter x)) acc env) env) := by
  unfold inner
  rw [h]
  rfl
theorem inner_last (kd : Kd) (gs : List Comprehension) (sc : Scope) (p : Pos) (d : Nat) (acc : Value) (env : Env) (h : gs[d]? = none) : inner kd gs sc p d acc env = kd.emit env acc := by
  unfold inner
  rw [h]

section
variable {prog : Program} {w : World} {A : Around} {R : Result → Shared → Prop} {s : Shared} {env : Env} {kd : Kd} {gs : List Comprehension} {sc : Scope} {p : Pos} {d : Nat} {it acc : Value} {tg iter : Expr} {ifs : List Expr}
theorem loop_any (h : gs[d]? = some ⟨tg, iter, ifs, 0⟩) (ha : ∀ g' ∈ gs, g'.is_async = 0) (I : Nat → Shared → Prop)
    (turn : ∀ n s, I n s → wpAny (model prog w) A (pyNext it) (fun r s1 => match r with
      | none => R (.ok .next) s1
      | some v => wpAny (model prog w) A (letOwnedTupleGo tg it v) (fun _ s1' => wpAny (model prog w) A (assign tg env v) (fun _ s2 =>
          wpAny (model prog w) A (forIn ifs true fun c r => if r = true then do let ok ← isTrue c env (eval c env); pure (ForInStep.yield ok) else pure (ForInStep.yield r)) (fun ok s3 =>
            if ok = true then wpAny (model prog w) A (inner kd gs sc p (d + 1) acc env) (fun _ s5 => ∃ m, m < n ∧ I m s5) (notedBy (model prog w) A env fun e s' => R (.error e) s') s3
            else ∃ m, m < n ∧ I m s3) (notedBy (model prog w) A env fun e s' => R (.error e) s') s2) (notedBy (model prog w) A env fun e s' => R (.error e) s') s1') (notedBy (model prog w) A env fun e s' => R (.error e) s') s1) (notedBy (model prog w) A env fun e s' => R (.error e) s') s)
    (n : Nat) (h0 : I n s) : codeAny (model prog w) A (.compLoop (kd.expr gs sc p) d it acc env) R s := by
  refine codeAny_loop (by cases kd <;> rfl) I (fun n s hI => ?_) n h0
  have e1 : A.under (.compLoop (kd.expr gs sc p) d it acc env) = A := by cases kd <;> rfl
  have e2 : (model prog w).den (.compLoop (kd.expr gs sc p) d it acc env) = (compTurn (kd.expr gs sc p) d it acc env).onRaise (fun x => do noteFrame x env; theTreesLotGoes x) := by cases kd <;> rfl
  rw [e1, e2]
  refine wpAny_noted ?_
  rw [turn_eq kd gs sc p d it acc env h ha]
  refine wpAny_bind (wpAny_standAt (wpAny_bind (wpAny_mono (turn n s hI) (fun r s1 h1 => ?_) fun _ _ h' => h')))
  cases r with
  | none => exact wpAny_pure h1
  | some v =>
    refine wpAny_bind (wpAny_mono h1 (fun _ s1' h1' => ?_) fun _ _ h' => h')
    refine wpAny_bind (wpAny_mono h1' (fun _ s2 h2 => wpAny_bind (wpAny_mono h2 (fun ok s3 h3 => ?_) fun _ _ h' => h')) fun _ _ h' => h')
    cases ok with
    | false => exact wpAny_pure ⟨rfl, h3⟩
    | true => exact wpAny_bind (wpAny_mono h3 (fun _ s5 h5 => wpAny_pure ⟨rfl, h5⟩) fun _ _ h' => h')
theorem start_any (h : gs[d]? = some ⟨tg, iter, ifs, 0⟩) (h0 : codeAny (model prog w) A (.compLoop (kd.expr gs sc p) d it acc env) R s)
    (h1 : wpAny (model prog w) A (pyIter it) (fun it' s' => codeAny (model prog w) A (.compLoop (kd.expr gs sc p) d it' acc env) R s')
      (notedBy (model prog w) A env fun x s' => R (.error x) s') s) :
    codeAny (model prog w) A (.compStart (kd.expr gs sc p) d it acc env) R s := by
  refine codeAny_of_tree ?_
  have e1 : A.under (.compStart (kd.expr gs sc p) d it acc env) = A := by cases kd <;> rfl
  have e2 : (model prog w).den (.compStart (kd.expr gs sc p) d it acc env) = (compStart (kd.expr gs sc p) d it acc env).onRaise (fun x => do noteFrame x env; standAt theWindowsPlace) := by cases kd <;> rfl
  have e3 : clausesOf (kd.expr gs sc p) = gs := by cases kd <;> rfl
  have e4 : (Code.compLoop (kd.expr gs sc p) d it acc env).quiet = true := by cases kd <;> rfl
  have e5 : ∀ it', (Code.compLoop (kd.expr gs sc p) d it' acc env).quiet = true := fun it' => by cases kd <;> rfl
  rw [e1, e2]
  refine wpAny_notedAt ?_
  unfold compStart
  rw [e3, h]
  show wpAny _ _ (ask >>= _) _ _ s
  refine wpAny_bind (wpAny_askSetting (wpAny_ite ?_))
  split
  · first
      | exact wpAny_bind (wpAny_pure (wpAny_pure (And.intro e4 h0)))
      | exact wpAny_pure (And.intro e4 h0)
  · first
      | exact wpAny_bind (wpAny_rule (wpAny_bind (wpAny_standAt (wpAny_bind (wpAny_mono h1 (fun it' s' h' => wpAny_pure (And.intro (e5 it') h')) fun _ _ x => x)))))
      | (refine wpAny_bind (wpAny_rule ?_); show wpAny _ _ (standAt iter.pos >>= _) _ _ s; exact wpAny_bind (wpAny_standAt (wpAny_bind (wpAny_mono h1 (fun it' s' h' => wpAny_pure (And.intro (e5 it') h')) fun _ _ x => x))))
end

/-- what is known at other places than vs stays known -/
def Weak (vs : List Nat) (σ σ' : L2.St) : Prop := σ'.length = σ.length ∧ ∀ (j : Nat) v, j ∉ vs → σ[j]? = some (some v) → σ'[j]? = some (some v)
theorem Weak.refl (vs : List Nat) (σ : L2.St) : Weak vs σ σ := ⟨rfl, fun _ _ _ e => e⟩
theorem wipe_weak (σ : L2.St) (vs : List Nat) : Weak vs σ (wipe σ vs) := ⟨wipe_length σ vs, fun j v n e => by rw [wipe_out n]; exact e⟩
abbrev TCl := L2.St → Hp → (Hp → Prop) → Prop
section
variable {X : Cx} {s3 : Shared} {H3 : Hp} {sc : Scope} {ce : Env} {fp : List Addr} {kd : Kd} {gs : List Comprehension} {sc' : Scope} {p : Pos} {D : Addr} {d : Nat}
def InnerOk (Y : Cx) (kd : Kd) (gs : List Comprehension) (sc : Scope) (p : Pos) (D : Addr) (d : Nat) (vs : List Nat) (t : TCl) : Prop :=
  ∀ (pins : List (Addr × Obj)) (s : Shared) (σ : L2.St) (H : Hp) (Nx : Hp → Prop), Inv Y pins σ H s → t σ H Nx →
    wpAny (model Y.prog Y.w) Y.A (inner kd gs sc p d (.ref D) Y.env) (fun _ s' => ∃ σ' H', Inv Y pins σ' H' s' ∧ Weak vs σ σ' ∧ Nx H') Y.xe s
/-- a list's element -/
def tEl (te : TE) (D : Addr) : TCl := fun σ H Nx => te σ H fun y H7 => ∃ acc, H7 D = some (.lst acc) ∧ acc.length < sizeLine ∧ Nx (upd H7 D (.lst (acc ++ [y])))
theorem emit_list {Y : Cx} {elt : Expr} {te : TE} (h : gs[d]? = none) (he : PE Y elt te) : InnerOk Y (.list elt) gs sc p D d [] (tEl te D) := by
  intro pins s σ H Nx I q
  rw [inner_last (.list elt) gs sc p d (.ref D) Y.env h]
  refine wpAny_bind (thn (he.run pins s σ H _ I q) fun z s1 ⟨y, H7, I7, r7, acc, hD, hz, nx⟩ => wpAny_bind (app_ok I7 hD hz r7 fun s2 I2 => wpAny_pure ⟨σ, _, I2, Weak.refl _ _, nx⟩))
/-- what set.add asks -/
def AddR (Y : Cx) (D : Addr) (r : V → Hp → (Hp → Prop) → Prop) : Prop := ∀ (pins : List (Addr × Obj)) (s : Shared) (σ : L2.St) (H : Hp) (y : V) (v : Value) (Nx : Hp → Prop), Inv Y pins σ H s → RelV y v → r y H Nx →
  wpAny (model Y.prog Y.w) Y.A (call (.builtin "set.add") [.ref D, v]) (fun _ s' => ∃ H', Inv Y pins σ H' s' ∧ Nx H') Y.xe s
theorem emit_set {Y : Cx} {elt : Expr} {te : TE} {r : V → Hp → (Hp → Prop) → Prop} (h : gs[d]? = none) (he : PE Y elt te) (hr : AddR Y D r) : InnerOk Y (.set elt) gs sc p D d [] (fun σ H Nx => te σ H fun y H7 => r y H7 Nx) := by
  intro pins s σ H Nx I q
  rw [inner_last (.set elt) gs sc p d (.ref D) Y.env h]
  refine wpAny_bind (thn (he.run pins s σ H _ I q) fun z s1 ⟨y, H7, I7, r7, nx⟩ => wpAny_bind (wpAny_standAt (wpAny_bind (thn (hr pins _ σ H7 y z Nx I7 r7 nx) fun _ s2 ⟨H8, I8, n8⟩ => wpAny_pure ⟨σ, H8, I8, Weak.refl _ _, n8⟩))))
/-- what a dict's entry asks -/
def PutR (Y : Cx) (D : Addr) (r : V → V → Hp → (Hp → Prop) → Prop) : Prop := ∀ (pins : List (Addr × Obj)) (s : Shared) (σ : L2.St) (H : Hp) (x y : V) (u v : Value) (Nx : Hp → Prop), Inv Y pins σ H s → RelV x u → RelV y v → r x y H Nx →
  wpAny (model Y.prog Y.w) Y.A (dictSet D u v) (fun _ s' => ∃ H', Inv Y pins σ H' s' ∧ Nx H') Y.xe s
theorem emit_dict {Y : Cx} {kx vx : Expr} {tk tv : TE} {r : V → V → Hp → (Hp → Prop) → Prop} (h : gs[d]? = none) (hk : PE Y kx tk) (hv : PE Y vx tv) (hr : PutR Y D r) :
    InnerOk Y (.dict kx vx) gs sc p D d [] (fun σ H Nx => tk σ H fun x H1 => tv σ H1 fun y H2 => r x y H2 Nx) := by
  intro pins s σ H Nx I q
  rw [inner_last (.dict kx vx) gs sc p d (.ref D) Y.env h]
  refine wpAny_bind (thn (hk.run pins s σ H _ I q) fun u s1 ⟨x, H1, I1, r1, q1⟩ => wpAny_bind (wpAny_holding (thn (hv.run pins s1 σ H1 _ I1 q1) fun v s2 ⟨y, H2, I2, r2, q2⟩ => ?_)))
  exact wpAny_bind (wpAny_standAt (wpAny_holding (thn (hr pins _ σ H2 x y u v Nx I2 r1 r2 q2) fun _ s2 ⟨H8, I8, n8⟩ => ⟨σ, H8, I8, Weak.refl _ _, n8⟩)))
/-- one clause, inner ones within -/
def tCl (wi : TI) (g : TG) (tt : TT) (t : TCl) (vs : List Nat) : TCl := fun σ H Nx => wi σ H fun J H4 => ∃ W1 : Nat → Nat → Hp → Prop, (∃ m, W1 0 m H4) ∧ ∀ j k H, W1 j k H →
  (J.stop j H ∧ Nx H) ∨ (J.go j H ∧ ∃ Nx1 : Hp → Prop, (∀ H', Nx1 H' → ∃ k', k' < k ∧ W1 (j + 1) k' H') ∧ ∀ x H', J.yld j H x H' → g x (wipe σ vs) H' fun σ3 H5 => wipe σ3 vs = wipe σ vs ∧ tt σ3 H5 fun b H6 => if b = true then t σ3 H6 Nx1 else Nx1 H6)
/-- the loop of one clause in a block, from the slots rho that each turn begins with -/
theorem walk_loop {g : TG} {tt : TT} {t : TCl} {vs vs' : List Nat} {tg iter : Expr} {ifs : List Expr} {pins : List (Addr × Obj)} {rho : L2.St} {J : It} {at_ : List Addr} {tn : Nat → Heap → Prop} {it : Addr} {Nx : Hp → Prop} {W : Nat → Nat → Hp → Prop} {R : Result → Shared → Prop}
    (hc : X.calm = true) (hd : gs[d]? = some ⟨tg, iter, ifs, 0⟩) (ha : ∀ g' ∈ gs, g'.is_async = 0) (T : Turn X.prog X.w X.K tg J at_ it tn)
    (hg : PG (X.blk s3 H3 sc' ce fp) tg g) (ht : PTs (X.blk s3 H3 sc' ce fp) ifs tt) (hin : InnerOk (X.blk s3 H3 sc' ce fp) kd gs sc p D (d + 1) vs' t) (hsub : ∀ i ∈ vs', i ∈ vs)
    (stand : ∀ {sg : L2.St} {H : Hp} {s : Shared}, Inv (X.blk s3 H3 sc' ce fp) pins sg H s → (∀ b ∈ at_, H b = none) → ∀ b ∈ at_, FpOk (X.blk s3 H3 sc' ce fp) pins H b)
    (turn : ∀ i k H, W i k H → (J.stop i H ∧ Nx H) ∨ (J.go i H ∧ ∃ N1 : Hp → Prop, (∀ H', N1 H' → ∃ k', k' < k ∧ W (i + 1) k' H') ∧ ∀ x H', J.yld i H x H' → g x rho H' fun sg H5 => wipe sg vs = rho ∧ tt sg H5 fun b H6 => if b = true then t sg H6 N1 else N1 H6))
    (done : ∀ H s, Inv (X.blk s3 H3 sc' ce fp) pins rho H s → Nx H → R (.ok .next) s)
    {s : Shared} {H : Hp} (I : Inv (X.blk s3 H3 sc' ce fp) pins rho H s) (st : tn 0 s.heap) (nf : ∀ b ∈ at_, H b = none) (m : Nat) (w0 : W 0 m H) :
    codeAny (model X.prog X.w) X.A (.compLoop (kd.expr gs sc p) d (.ref it) (.ref D) ce) R s := by
  refine loop_any hd ha (fun k s' => ∃ i H', W i k H' ∧ Inv (X.blk s3 H3 sc' ce fp) pins rho H' s' ∧ tn i s'.heap ∧ ∀ b ∈ at_, H' b = none) ?_ m ⟨0, H, w0, I, st, nf⟩
  rintro k sA ⟨i, HA, wA, IA, stA, nA⟩
  cases turn i k HA wA with
  | inl e =>
    refine thnF (T.done (X.blk s3 H3 sc' ce fp) rfl rfl rfl hc i pins sA rho HA (fun _ _ => False) IA (stand IA nA) stA e.1) fun r sB hB => ?_
    cases hB.1
    exact done HA sB hB.2 e.2
  | inr e =>
    obtain ⟨go, N1, hN1, step⟩ := e
    refine thnF (T.item (X.blk s3 H3 sc' ce fp) rfl rfl rfl hc i pins sA rho HA (fun _ _ => False) IA (stand IA nA) stA go) fun r sB hB => ?_
    obtain ⟨u, er, hB⟩ := hB
    cases er
    refine thnF hB fun _ sC hC => ?_
    obtain ⟨x, HC, IC, rx, yC, stC, nC⟩ := hC
    have kept : ∀ {sg sg' : L2.St} {s' : Shared} {H' : Hp}, wipe sg vs = rho → Inv (X.blk s3 H3 sc' ce fp) (pins ++ pinsAt at_ sC.heap) sg' H' s' → Weak vs' sg sg' → N1 H' →
        ∃ k', k' < k ∧ ∃ i H', W i k' H' ∧ Inv (X.blk s3 H3 sc' ce fp) pins rho H' s' ∧ tn i s'.heap ∧ ∀ b ∈ at_, H' b = none := by
      intro sg sg' s' H' hw I' wk n1
      obtain ⟨k', lt, w1⟩ := hN1 H' n1
      have same : ∀ b ∈ at_, ∀ o, sC.heap.get? b = some o → s'.heap.get? b = some o ∧ H' b = none := by
        intro b hb o eo
        have q := I'.pin (b, o) (List.mem_append_right _ (List.mem_append_right _ (mem_pinsAt hb eo)))
        exact ⟨q.1, q.2.1⟩
      have known : ∀ (j : Nat) v, rho[j]? = some (some v) → sg'[j]? = some (some v) := by
        intro j v ej
        subst hw
        have q := wipe_some ej
        exact wk.2 j v (fun z => q.2 (hsub j z)) q.1
      have len : rho.length = sg'.length := by rw [wk.1, ← hw, wipe_length]
      refine ⟨k', lt, i + 1, H', w1, I'.unpinned.weak len known, T.keep _ _ _ stC fun b hb o eo => (same b hb o eo).1, fun b hb => ?_⟩
      obtain ⟨o, eo, _⟩ := T.obj _ _ stC b hb
      exact (same b hb o eo).2
    refine thnF (hg.run _ sC rho HC x u _ (IC.pinned (stand IC nC) (T.obj _ _ stC)) rx (step x HC yC)) fun _ sD hD => ?_
    obtain ⟨sg, HD, ID, hw, tD⟩ := hD
    refine thnF (ht.run _ sD sg HD _ ID tD) fun b sE hE => ?_
    obtain ⟨HE, IE, qE⟩ := hE
    cases b with
    | false =>
      rw [if_neg (by decide)] at qE ⊢
      exact kept hw IE (Weak.refl _ _) qE
    | true =>
      rw [if_pos rfl] at qE ⊢
      refine thnF (hin _ sE sg HE N1 IE qE) fun _ sF hF => ?_
      obtain ⟨sg', HF, IF, wk, n1⟩ := hF
      exact kept hw IF wk n1
theorem inner_loop {wi : TI} {g : TG} {tt : TT} {t : TCl} {vs vs' : List Nat} {tg iter : Expr} {ifs : List Expr} (hc : X.calm = true) (h : gs[d]? = some ⟨tg, iter, ifs, 0⟩) (ha : ∀ g' ∈ gs, g'.is_async = 0)
    (hi : PI (X.blk s3 H3 sc' ce fp) tg iter wi) (hg : PG (X.blk s3 H3 sc' ce fp) tg g) (ht : PTs (X.blk s3 H3 sc' ce fp) ifs tt) (hs : ∀ x, foldedSetIterable iter ce x = pure x)
    (hin : InnerOk (X.blk s3 H3 sc' ce fp) kd gs sc p D (d + 1) vs' t) (hsub : ∀ i ∈ vs', i ∈ vs) : InnerOk (X.blk s3 H3 sc' ce fp) kd gs sc p D d vs (tCl wi g tt t vs) := by
  intro pins s σ H Nx I q
  rw [inner_more kd gs sc p d (.ref D) _ h]
  refine wpAny_bind (thn (hi.run pins s σ H _ I q) fun xv s1 hx => ?_)
  refine wpAny_bind (wpAny_standAt (wpAny_bind (wpAny_of_eq (hs xv) (wpAny_bind (wpAny_holding (thn hx fun itv s2 h2 => ?_))))))
  obtain ⟨it, at_, tn, J, H2, rfl, I2, T, st, f2, W, ⟨m, w0⟩, turn⟩ := h2
  have loop : codeAny (model X.prog X.w) X.A (.compLoop (kd.expr gs sc p) d (.ref it) (.ref D) ce) (fun r s' => match r with
      | .ok _ => ∃ σ' H', Inv (X.blk s3 H3 sc' ce fp) pins σ' H' s' ∧ Weak vs σ σ' ∧ Nx H'
      | .error _ => False) s2 :=
    walk_loop hc h ha T hg ht hin hsub (fun _ hn b hb => ⟨hn b hb, (f2 b hb).2⟩) turn (fun H' s' I' n => ⟨_, H', I', wipe_weak σ vs, n⟩) (I2.weak (wipe_length _ _) fun j v e => (wipe_some e).1) st (fun b hb => (f2 b hb).1) m w0
  refine wpAny_bind (wpAny_runOwn ?_)
  rw [Around.mark_none]
  refine codeAny_mono (start_any h loop (T.self X.A 0 _ _ _ st loop)) fun r s' hr => ?_
  cases r with
  | ok f => exact wpAny_pure hr
  | error e => exact hr.elim
end

section
variable {X : Cx}
/-- a comprehension: its new object at D, the first clause's walk, the rest within -/
def tComp (wi : TI) (g : TG) (tt : TT) (t : Addr → TCl) (vs : List Nat) (ho : Addr → HO) : TE := fun σ H Q => wi σ H fun J H1 => ∀ D, H1 D = none → ∃ W : Nat → Nat → Hp → Prop, (∃ m, W 0 m (upd H1 D (ho D))) ∧ ∀ i m H, W i m H →
  (J.stop i H ∧ Q (.ref D) H) ∨ (J.go i H ∧ ∃ Nx : Hp → Prop, (∀ H', Nx H' → ∃ m', m' < m ∧ W (i + 1) m' H') ∧ ∀ x H', J.yld i H x H' → g x (wipe σ vs) H' fun σ2 H2 => wipe σ2 vs = wipe σ vs ∧ tt σ2 H2 fun b H3 =>
    if b = true then t D σ2 H3 Nx else Nx H3)
theorem comp_core {pins : List (Addr × Obj)} {s : Shared} {σ : L2.St} {H : Hp} {Q : VK} {kd : Kd} {gs : List Comprehension} {tg iter : Expr} {ifs : List Expr} {scope : Scope} {own : List (Str × Nat)} {p pos' : Pos} {wi : TI} {g : TG} {tt : TT} {t : Addr → TCl} {vs' : List Nat} {use : Option (Value → Sem Unit)} {Qf : Value → Shared → Prop} {newAcc : Sem Value} {o0 : Obj} {ho : Addr → HO}
    (hc : X.calm = true) (hN : X.N.Nodup) (h0 : gs[0]? = some ⟨tg, iter, ifs, 0⟩) (ha : ∀ g' ∈ gs, g'.is_async = 0) (I : Inv X pins σ H s) (hi : PI X tg iter wi) (ok : BlkOk X.N X.env.scope scope own)
    (hnew : ∀ (s : Shared) (E : Value → Shared → Prop) (Q : Value → Shared → Prop), Q (.ref s.heap.objs.size) { s with heap := s.heap.push o0 } → wpAny (model X.prog X.w) X.A newAcc Q E s)
    (hobj : ∀ (H : Hp) (h : Heap), ObjOk X.prog X.w (upd H h.objs.size (ho h.objs.size)) (h.push o0) h.objs.size (ho h.objs.size))
    (hg : ∀ (s : Shared) (H : Hp) (C : Addr) (cl : List (Str × Addr)) (fp : List Addr), PG (X.blk s H scope (compEnvC scope cl C X.env) fp) tg g) (ht : ∀ (s : Shared) (H : Hp) (C : Addr) (cl : List (Str × Addr)) (fp : List Addr), PTs (X.blk s H scope (compEnvC scope cl C X.env) fp) ifs tt)
    (hin : ∀ (s : Shared) (H : Hp) (C : Addr) (cl : List (Str × Addr)) (fp : List Addr) (D : Addr), InnerOk (X.blk s H scope (compEnvC scope cl C X.env) fp) kd gs scope p D 1 vs' (t D)) (hsub : ∀ i ∈ vs', i ∈ own.map (·.2)) (hs : ∀ x, foldedSetIterable iter X.env x = pure x)
    (h : tComp wi g tt t (own.map (·.2)) ho σ H Q)
    (hRR : ∀ D C s' m H', Inv X pins σ H' s' → Q (.ref D) H' → s'.heap.Ns C m → FpOk X pins H' C → compPost (model X.prog X.w) X.A X.xe use Qf (.ref D) C (.ok .next) s') :
    wpAny (model X.prog X.w) X.A (comprehension (kd.expr gs scope p) scope X.env pos' newAcc false (eval iter X.env) use) Qf X.xe s := by
  have hfree : ∀ y ∈ scope.names, y.2 = .free → ∃ c, X.env.cells.lookup y.1 = some c := fun y hy e => by
    rcases ok.free y hy e with k | k
    · exact I.ok.has _ (.inl k)
    · exact I.ok.has _ (.inr k)
  obtain ⟨g0, gr, rfl⟩ : ∃ g0 gr, gs = g0 :: gr := by
    cases gs with
    | nil => cases h0
    | cons g0 gr => exact ⟨g0, gr, rfl⟩
  have e0 : g0 = ⟨tg, iter, ifs, 0⟩ := Option.some.inj h0
  subst e0
  have hcl : clausesOf (kd.expr (⟨tg, iter, ifs, 0⟩ :: gr) scope p) = ⟨tg, iter, ifs, 0⟩ :: gr := by cases kd <;> rfl
  refine wpAny_comprehension_free (use := use) hcl hs (closure_ok hfree) ok.kind (fun y hy e => by rw [ok.uniq y hy, e])
    (thn (hi.run pins s σ H _ I h) fun xv s1 hx => thn hx fun itv s2 h2 => ?_)
  obtain ⟨it, fp, tn, J, H2, e, I2, T, st2, f2, q⟩ := h2
  subst e
  refine hnew s2 _ _ (newEnv_comp ?_)
  generalize hD : s2.heap.objs.size = D
  have hDn : H2 D = none := I2.hok.fresh (Nat.le_of_eq hD)
  obtain ⟨W, ⟨m0, w0⟩, turn⟩ := q D hDn
  generalize hs3 : ({ s2 with heap := s2.heap.push o0 } : Shared) = s3
  have I3 : Inv X pins σ (upd H2 D (ho D)) s3 := by
    rw [← hs3, ← hD]
    exact I2.laid (t' := s2.toks) (fun b o e => Heap.get?_push_of_some _ e) (Nat.le_refl _) (hobj H2 s2.heap)
  have h3 : s3.heap = s2.heap.push o0 := by rw [← hs3]
  have sz : ∀ b ∈ fp, b < s2.heap.objs.size := fun b hb => by
    obtain ⟨o, e, _⟩ := T.obj _ _ st2 b hb
    exact Heap.lt_size e
  have f3 : ∀ b ∈ fp, FpOk X pins (upd H2 D (ho D)) b ∧ b < s3.heap.objs.size := fun b hb => by
    have hlt := sz b hb
    refine ⟨⟨?_, (f2 b hb).2⟩, by rw [h3, Heap.size_push]; exact Nat.lt_succ_of_lt hlt⟩
    rw [upd_ne (by rw [← hD]; exact Nat.ne_of_lt hlt)]
    exact (f2 b hb).1
  have st3 : tn 0 s3.heap := T.keep _ _ _ st2 fun b _ o e => by rw [h3]; exact Heap.get?_push_of_some _ e
  have I4 := block_start I3 ok hN f3
  have pg := hg s3 (upd H2 D (ho D)) s3.heap.objs.size (cellsFrom (s3.heap.objs.size + 1) scope.names (cloFrom X.env.cells scope.names [])) fp
  have pt := ht s3 (upd H2 D (ho D)) s3.heap.objs.size (cellsFrom (s3.heap.objs.size + 1) scope.names (cloFrom X.env.cells scope.names [])) fp
  have pe := hin s3 (upd H2 D (ho D)) s3.heap.objs.size (cellsFrom (s3.heap.objs.size + 1) scope.names (cloFrom X.env.cells scope.names [])) fp D
  show codeAny _ _ (.compStart (kd.expr (⟨tg, iter, ifs, 0⟩ :: gr) scope p) 0 (.ref it) (.ref D) (compEnvC scope (cellsFrom (s3.heap.objs.size + 1) scope.names (cloFrom X.env.cells scope.names [])) s3.heap.objs.size X.env)) (compPost (model X.prog X.w) X.A X.xe use Qf (.ref D) s3.heap.objs.size) { s3 with heap := pushCells (s3.heap.push { cls := .type "dict", data := .dict #[] }) scope.names }
  have nfp : ∀ b ∈ fp, (upd H2 D (ho D)) b = none := fun b hb => (f3 b hb).1.1
  generalize hce : compEnvC scope (cellsFrom (s3.heap.objs.size + 1) scope.names (cloFrom X.env.cells scope.names [])) s3.heap.objs.size X.env = ce at I4 pg pt pe ⊢
  have cL : ce.locals = s3.heap.objs.size := by subst hce; rfl
  generalize hH3 : upd H2 D (ho D) = H3 at I3 I4 pg pt pe w0 nfp f3
  generalize hs4 : ({ s3 with heap := pushCells (s3.heap.push { cls := .type "dict", data := .dict #[] }) scope.names } : Shared) = s4 at I4 ⊢
  have st4 : tn 0 s4.heap := T.keep _ _ _ st3 fun b _ o e => by rw [← hs4]; exact pushCells_keeps _ _ _ _ (Heap.get?_push_of_some _ e)
  have loop : codeAny (model X.prog X.w) X.A (.compLoop (kd.expr (⟨tg, iter, ifs, 0⟩ :: gr) scope p) 0 (.ref it) (.ref D) ce) (compPost (model X.prog X.w) X.A X.xe use Qf (.ref D) s3.heap.objs.size) s4 := by
    refine walk_loop (tg := tg) (iter := iter) (ifs := ifs) hc rfl ha T pg pt pe hsub (fun {sg H' s'} I' hn b hb => ?_) turn (fun H' s' I' n => ?_) I4 st4 nfp m0 w0
    · have x1 := I'.ok.exf b hb
      exact ⟨hn b hb, x1.1, I'.ok.exfs b hb, .inl hb, fun x c e => x1.2 x c e, fun q hq => by cases hq⟩
    · obtain ⟨m, hm, _⟩ := I'.loc
      have hm : s'.heap.Ns ce.locals m := hm
      have nC : H' ce.locals = none := I'.free
      rw [cL] at hm nC
      exact hRR D s3.heap.objs.size s' m H' (I3.call' (ch := fp) I'.os I'.base I'.hok I'.bare fun b hb => by
        obtain ⟨_, a1, _, a3, a4, a5⟩ := (f3 b hb).1
        exact ⟨a3, a1, a4, a5⟩) n hm (I3.fpOk (Nat.le_refl _) nC)
  exact start_any (tg := tg) (iter := iter) (ifs := ifs) rfl loop (T.self X.A 0 _ _ _ st4 loop)
end
end Lc

set_option Elab.async false
set_option linter.all false
set_option maxRecDepth 100000
set_option maxHeartbeats 1000000
/-! Zi: a second layer over HandS and Ly. Data D (frozen, within a partial heap F), own containers in the slots, cells in a store; each construct as a transformer over such states, sound for the hand layer's reading. -/
namespace Zi
open PySem PySem.Spec PyProof.Rows L2 Ly

/-! ### data -/
inductive D where
  | non | bl (b : Bool) | int (i : Int) | str (x : Str) | lst (ds : List D) | tup (ds : List D) | dic (ks vs : List D) | ins (C : Addr) (ns : List Str) (ds : List D)
def kD : Key → D
  | .inl i => .int i
  | .inr s => .str s
mutual
inductive Dv (H : Hp) : V → D → Prop
  | non : Dv H .non .non
  | bl (b : Bool) : Dv H (.bl b) (.bl b)
  | int (i : Int) : Dv H (.int i) (.int i)
  | str (x : Str) : Dv H (.str x) (.str x)
  | lst {a : Addr} {xs : List V} {ds : List D} : H a = some (.lst xs) → DvAll H xs ds → Dv H (.ref a) (.lst ds)
  | tup {a : Addr} {xs : List V} {ds : List D} : H a = some (.tup xs) → DvAll H xs ds → Dv H (.ref a) (.tup ds)
  | dK {a : Addr} {kvs : List (Key × V)} {ds : List D} : H a = some (.dK kvs) → DvAll H (kvs.map (·.2)) ds → Dv H (.ref a) (.dic (kvs.map fun kv => kD kv.1) ds)
  | ins {a C dx : Addr} {fs : List (Str × V)} {ds : List D} : H a = some (.ins C dx fs) → DvAll H (fs.map (·.2)) ds → Dv H (.ref a) (.ins C (fs.map (·.1)) ds)
inductive DvAll (H : Hp) : List V → List D → Prop
  | nil : DvAll H [] []
  | cons {v : V} {vs : List V} {d : D} {ds : List D} : Dv H v d → DvAll H vs ds → DvAll H (v :: vs) (d :: ds)
end
mutual
def py : D → PyData
  | .non => .none
  | .bl b => .bool b
  | .int i => .int i
  | .str x => .str x
  | .lst ds => .list (pyAll ds)
  | .tup ds => .tuple (pyAll ds)
  | .dic _ _ => .dict []
  | .ins _ _ _ => .dict []
def pyAll : List D → List PyData
  | [] => []
  | d :: ds => py d :: pyAll ds
end
theorem pyAll_map : ∀ ds : List D, pyAll ds = ds.map py
  | [] => rfl
  | d :: ds => by rw [pyAll, pyAll_map ds]; rfl
section
variable {H H' : Hp} {K : PySem.W.Frag}
mutual
theorem Dv.mono (k : ∀ a o, H a = some o → H' a = some o) : ∀ {v : V} {d : D}, Dv H v d → Dv H' v d
  | _, _, .non => .non
  | _, _, .bl b => .bl b
  | _, _, .int i => .int i
  | _, _, .str x => .str x
  | _, _, .lst e h => .lst (k _ _ e) (DvAll.mono k h)
  | _, _, .tup e h => .tup (k _ _ e) (DvAll.mono k h)
  | _, _, .dK e h => .dK (k _ _ e) (DvAll.mono k h)
  | _, _, .ins e h => .ins (k _ _ e) (DvAll.mono k h)
theorem DvAll.mono (k : ∀ a o, H a = some o → H' a = some o) : ∀ {vs : List V} {ds : List D}, DvAll H vs ds → DvAll H' vs ds
  | _, _, .nil => .nil
  | _, _, .cons h t => .cons (Dv.mono k h) (DvAll.mono k t)
end
mutual
theorem Dv.dq : ∀ {v : V} {d : D}, Dv H v d → (py d).plain = true → Dq H v (py d)
  | _, _, .non, _ => .non
  | _, _, .bl b, _ => .bl b
  | _, _, .int i, _ => .int i
  | _, _, .str x, _ => .str x
  | _, _, .lst e h, p => .lst e (DvAll.dq h (by simpa only [py, PyData.plain] using p))
  | _, _, .tup e h, p => .tup e (DvAll.dq h (by simpa only [py, PyData.plain] using p))
  | _, _, .dK e h, p => by simp only [py, PyData.plain] at p; cases p
  | _, _, .ins e h, p => by simp only [py, PyData.plain] at p; cases p
theorem DvAll.dq : ∀ {vs : List V} {ds : List D}, DvAll H vs ds → PyData.plainAll (pyAll ds) = true → DqAll H vs (pyAll ds)
  | _, _, .nil, _ => .nil
  | _, _, .cons h t, p => by
    simp only [pyAll, PyData.plainAll, Bool.and_eq_true] at p
    exact .cons (Dv.dq h p.1) (DvAll.dq t p.2)
end
theorem DvAll.length : ∀ {vs : List V} {ds : List D}, DvAll H vs ds → vs.length = ds.length
  | _, _, .nil => rfl
  | _, _, .cons _ t => by rw [List.length_cons, List.length_cons, DvAll.length t]
theorem DvAll.get : ∀ {vs : List V} {ds : List D} {i : Nat} {d : D}, DvAll H vs ds → ds[i]? = some d → ∃ v, vs[i]? = some v ∧ Dv H v d
  | _, _, _, _, .nil, e => by simp at e
  | _, _, 0, _, .cons h _, e => by simp at e; subst e; exact ⟨_, rfl, h⟩
  | _, _, i + 1, _, .cons _ t, e => by simpa using DvAll.get (i := i) t (by simpa using e)
theorem DvAll.getV : ∀ {vs : List V} {ds : List D} {i : Nat} {v : V}, DvAll H vs ds → vs[i]? = some v → ∃ d, ds[i]? = some d ∧ Dv H v d
  | _, _, _, _, .nil, e => by simp at e
  | _, _, 0, _, .cons h _, e => by simp at e; subst e; exact ⟨_, rfl, h⟩
  | _, _, i + 1, _, .cons _ t, e => by simpa using DvAll.getV (i := i) t (by simpa using e)
theorem DvAll.append : ∀ {vs ws : List V} {ds es : List D}, DvAll H vs ds → DvAll H ws es → DvAll H (vs ++ ws) (ds ++ es)
  | _, _, _, _, .nil, s => s
  | _, _, _, _, .cons h t, s => .cons h (DvAll.append t s)
theorem DvAll.take : ∀ {vs : List V} {ds : List D} (n : Nat), DvAll H vs ds → DvAll H (vs.take n) (ds.take n)
  | _, _, 0, _ => .nil
  | _, _, _ + 1, .nil => .nil
  | _, _, n + 1, .cons h t => .cons h (DvAll.take n t)
theorem DvAll.drop : ∀ {vs : List V} {ds : List D} (n : Nat), DvAll H vs ds → DvAll H (vs.drop n) (ds.drop n)
  | _, _, 0, r => r
  | _, _, _ + 1, .nil => .nil
  | _, _, n + 1, .cons _ t => DvAll.drop n t
theorem DvAll.reverse : ∀ {vs : List V} {ds : List D}, DvAll H vs ds → DvAll H vs.reverse ds.reverse
  | _, _, .nil => .nil
  | _, _, .cons h t => by
    rw [List.reverse_cons, List.reverse_cons]
    exact DvAll.append (DvAll.reverse t) (.cons h .nil)
theorem DvAll.eraseIdx : ∀ {vs : List V} {ds : List D} (i : Nat), DvAll H vs ds → DvAll H (vs.eraseIdx i) (ds.eraseIdx i)
  | _, _, _, .nil => .nil
  | _, _, 0, .cons _ t => t
  | _, _, i + 1, .cons h t => .cons h (DvAll.eraseIdx i t)
theorem DvAll.set : ∀ {vs : List V} {ds : List D} {v : V} {d : D} (i : Nat), DvAll H vs ds → Dv H v d → DvAll H (vs.set i v) (ds.set i d)
  | _, _, _, _, _, .nil, _ => .nil
  | _, _, _, _, 0, .cons _ t, q => .cons q t
  | _, _, _, _, i + 1, .cons h t, q => .cons h (DvAll.set i t q)
theorem Dv.intE {v : V} {i : Int} (h : Dv H v (.int i)) : v = .int i := by cases h; rfl
theorem Dv.blE {v : V} {b : Bool} (h : Dv H v (.bl b)) : v = .bl b := by cases h; rfl
theorem Dv.strE {v : V} {b : Str} (h : Dv H v (.str b)) : v = .str b := by cases h; rfl
theorem Dv.nonE {v : V} (h : Dv H v .non) : v = .non := by cases h; rfl
theorem Dv.lstE {v : V} {ds : List D} (h : Dv H v (.lst ds)) : ∃ a xs, v = .ref a ∧ H a = some (.lst xs) ∧ DvAll H xs ds := by cases h with | lst e h => exact ⟨_, _, rfl, e, h⟩
theorem Dv.tupE {v : V} {ds : List D} (h : Dv H v (.tup ds)) : ∃ a xs, v = .ref a ∧ H a = some (.tup xs) ∧ DvAll H xs ds := by cases h with | tup e h => exact ⟨_, _, rfl, e, h⟩
end

/-! ### states -/
/-- a value: data; a cell of the store; a raw value of the hand layer -/
inductive W where | d (x : D) | loc (n : Nat) | raw (v : V) (φ : Hp → Prop)
/-- a container -/
inductive Cell where | lst (ds : List D) | dic (kvs : List (Key × D)) | ins (C : Addr) (fs : List (Str × W)) | lsw (ws : List W)
/-- a slot: nothing known; a value; a container of its own -/
inductive Sl where | no | v (w : W) | own (c : Cell)
structure AS where
  env : List Sl
  st : List Cell
/-- what an expression gives: a value; the container of a slot -/
inductive R where | w (x : W) | sl (i : Nat)
/-- .. or a new container -/
inductive N where | w (x : W) | new (c : Cell)
abbrev AE := AS → (R → AS → Prop) → Prop
abbrev AN := AS → (N → AS → Prop) → Prop
abbrev AT := AS → (Bool → AS → Prop) → Prop
abbrev AA := AS → (List W → AS → Prop) → Prop
structure AEnds where
  nx : AS → Prop
  rt : N → List Cell → Prop
  bk : AS → Prop := fun _ => False
  ct : AS → Prop := fun _ => False
abbrev ASt := AEnds → AS → Prop
def cellD : Cell → Option D
  | .lst ds => some (.lst ds)
  | .dic kvs => some (.dic (kvs.map fun kv => kD kv.1) (kvs.map (·.2)))
  | _ => none
def peekW (s : AS) : W → Option D
  | .d x => some x
  | .loc n => match s.st[n]? with
    | some c => cellD c
    | none => none
  | .raw _ _ => none
def peek (s : AS) : R → Option D
  | .w w => peekW s w
  | .sl i => match s.env[i]? with
    | some (.own c) => cellD c
    | some (.v w) => peekW s w
    | _ => none

/-! ### what a state says of slots and heap -/
structure Bs where
  G : Hp
  F : Hp
  al : Nat → Addr
  L : Nat
structure Ext (F F' : Hp) (al al' : Nat → Addr) (L L' : Nat) : Prop where
  ff : Same F F'
  ln : L ≤ L'
  al : ∀ n, n < L → al' n = al n
theorem Ext.refl {F : Hp} {al : Nat → Addr} {L : Nat} : Ext F F al al L L := ⟨fun _ _ e => e, Nat.le_refl _, fun _ _ => rfl⟩
theorem Ext.trans {F F1 F2 : Hp} {a a1 a2 : Nat → Addr} {L L1 L2 : Nat} (x : Ext F F1 a a1 L L1) (y : Ext F1 F2 a1 a2 L1 L2) : Ext F F2 a a2 L L2 :=
  ⟨fun p o e => y.ff p o (x.ff p o e), Nat.le_trans x.ln y.ln, fun n h => (y.al n (Nat.lt_of_lt_of_le h x.ln)).trans (x.al n h)⟩
def WV (F : Hp) (al : Nat → Addr) (L : Nat) : W → V → Prop
  | .d x, v => Dv F v x
  | .loc n, v => v = .ref (al n) ∧ n < L
  | .raw u φ, v => v = u ∧ φ F ∧ ∀ F F', Same F F' → φ F → φ F'
abbrev WVs (F : Hp) (al : Nat → Addr) (L : Nat) : List W → List V → Prop := Paired (WV F al L)
theorem WV.ext {F F' : Hp} {al al' : Nat → Addr} {L L' : Nat} {w : W} {v : V} (x : Ext F F' al al' L L') (h : WV F al L w v) : WV F' al' L' w v := by
  cases w with
  | d d => exact Dv.mono x.ff h
  | loc n => exact ⟨by rw [x.al n h.2]; exact h.1, Nat.lt_of_lt_of_le h.2 x.ln⟩
  | raw u φ => exact ⟨h.1, h.2.2 _ _ x.ff h.2.1, h.2.2⟩
theorem Paired.up {α β : Type} {P Q : α → β → Prop} (k : ∀ a b, P a b → Q a b) : ∀ {xs : List α} {ys : List β}, Paired P xs ys → Paired Q xs ys
  | _, _, .nil => .nil
  | _, _, .cons h t => .cons (k _ _ h) (Paired.up k t)
theorem WVs.ext {F F' : Hp} {al al' : Nat → Addr} {L L' : Nat} {ws : List W} {vs : List V} (x : Ext F F' al al' L L') (h : WVs F al L ws vs) : WVs F' al' L' ws vs := Paired.up (fun _ _ => WV.ext x) h
/-- a container's content -/
inductive CO (F : Hp) (al : Nat → Addr) (L : Nat) : HO → Cell → Prop
  | lst {vs : List V} {ds : List D} : DvAll F vs ds → CO F al L (.lst vs) (.lst ds)
  | dic {kvs : List (Key × V)} {kds : List (Key × D)} : Paired (fun (p : Key × V) (q : Key × D) => p.1 = q.1 ∧ Dv F p.2 q.2) kvs kds → CO F al L (.dK kvs) (.dic kds)
  | ins {C dx : Addr} {fs : List (Str × V)} {ws : List (Str × W)} : Paired (fun (p : Str × V) (q : Str × W) => p.1 = q.1 ∧ WV F al L q.2 p.2) fs ws → CO F al L (.ins C dx fs) (.ins C ws)
  | lsw {vs : List V} {ws : List W} : WVs F al L ws vs → CO F al L (.lst vs) (.lsw ws)
theorem CO.ext {F F' : Hp} {al al' : Nat → Addr} {L L' : Nat} {o : HO} {c : Cell} (x : Ext F F' al al' L L') (h : CO F al L o c) : CO F' al' L' o c := by
  cases h with
  | lst h => exact .lst (h.mono x.ff)
  | dic h => exact .dic (Paired.up (fun _ _ z => ⟨z.1, z.2.mono x.ff⟩) h)
  | ins h => exact .ins (Paired.up (fun _ _ z => ⟨z.1, z.2.ext x⟩) h)
  | lsw h => exact .lsw (h.ext x)
structure CAt (F : Hp) (al : Nat → Addr) (L : Nat) (H : Hp) (a : Addr) (c : Cell) : Prop where
  f : F a = none
  o : ∃ o, H a = some o ∧ CO F al L o c
/-- the store -/
structure RelS (B : Bs) (F : Hp) (al : Nat → Addr) (st : List Cell) (H : Hp) : Prop where
  sm : Same F H
  sg : Same B.G H
  fg : ∀ a o, B.G a = some o → F a = none
  ex : Ext B.F F B.al al B.L st.length
  ss : ∀ n m : Nat, n < st.length → m < st.length → al n = al m → n = m
  cl : ∀ (n : Nat) (c : Cell), st[n]? = some c → B.G (al n) = none ∧ CAt F al st.length H (al n) c
structure Rel (B : Bs) (F : Hp) (al : Nat → Addr) (s : AS) (σ : L2.St) (H : Hp) : Prop extends RelS B F al s.st H where
  le : s.env.length ≤ σ.length
  ev : ∀ (i : Nat) (w : W), s.env[i]? = some (Sl.v w) → ∃ v, σ[i]? = some (some v) ∧ WV F al s.st.length w v
  eo : ∀ (i : Nat) (c : Cell), s.env[i]? = some (Sl.own c) → ∃ a : Addr, σ[i]? = some (some (V.ref a)) ∧ B.G a = none ∧ CAt F al s.st.length H a c ∧ (∀ n, n < s.st.length → al n ≠ a) ∧ ∀ (j : Nat) (c' : Cell), s.env[j]? = some (Sl.own c') → σ[j]? = some (some (V.ref a)) → j = i
def RV (F : Hp) (al : Nat → Addr) (L : Nat) (σ : L2.St) : R → V → Prop
  | .w w, v => WV F al L w v
  | .sl i, v => σ[i]? = some (some v)
theorem RV.ext {F F' : Hp} {al al' : Nat → Addr} {L L' : Nat} {σ : L2.St} {r : R} {v : V} (x : Ext F F' al al' L L') (h : RV F al L σ r v) : RV F' al' L' σ r v := by
  cases r with
  | w w => exact WV.ext x h
  | sl i => exact h
/-- a new container beside a state -/
def NV (B : Bs) (F : Hp) (al : Nat → Addr) (st : List Cell) (H : Hp) : N → V → Prop
  | .w w, v => WV F al st.length w v
  | .new c, v => ∃ p, v = .ref p ∧ B.G p = none ∧ CAt F al st.length H p c ∧ ∀ n, n < st.length → al n ≠ p
def NVe (B : Bs) (F : Hp) (al : Nat → Addr) (s : AS) (σ : L2.St) (H : Hp) (n : N) (v : V) : Prop :=
  NV B F al s.st H n v ∧ ∀ c, n = .new c → ∀ (i : Nat) (c' : Cell), s.env[i]? = some (Sl.own c') → σ[i]? ≠ some (some v)

/-! ### soundness of a transformer -/
/-- what is wanted of an exception: its class, its fields, the store -/
abbrev XA := Addr → List (Str × W) → List Cell → Prop
structure EX where
  ec : XK
  ea : XA
def EA (B : Bs) (E : XK) : XA := fun C fs st' => ∀ F' al' H' d vs, RelS B F' al' st' H' → H' d = some (.xd vs) → Paired (fun (p : Str × V) (q : Str × W) => p.1 = q.1 ∧ WV F' al' st'.length q.2 p.2) vs fs → E (.ref C) (some d) H'
def Okx (B : Bs) (Z : EX) : Prop := ∀ C fs st', Z.ea C fs st' → EA B Z.ec C fs st'

def RE (Z : EX) (te : TE) (ae : AE) : Prop := ∀ B, Okx B Z → ∀ F al s σ H (Q : VK) (A : R → AS → Prop), Rel B F al s σ H → ae s A →
  (∀ r s' F' al' H' v, Ext F F' al al' s.st.length s'.st.length → Rel B F' al' s' σ H' → RV F' al' s'.st.length σ r v → A r s' → Q v H') → te σ H Q
def RN (Z : EX) (te : TE) (an : AN) : Prop := ∀ B, Okx B Z → ∀ F al s σ H (Q : VK) (A : N → AS → Prop), Rel B F al s σ H → an s A →
  (∀ n s' F' al' H' v, Ext F F' al al' s.st.length s'.st.length → Rel B F' al' s' σ H' → NVe B F' al' s' σ H' n v → A n s' → Q v H') → te σ H Q
def RT (Z : EX) (tt : TT) (at_ : AT) : Prop := ∀ B, Okx B Z → ∀ F al s σ H (Q : Bool → Hp → Prop) (A : Bool → AS → Prop), Rel B F al s σ H → at_ s A →
  (∀ b s' F' al' H', Ext F F' al al' s.st.length s'.st.length → Rel B F' al' s' σ H' → A b s' → Q b H') → tt σ H Q
def RA (Z : EX) (ta : TA) (aa : AA) : Prop := ∀ B, Okx B Z → ∀ F al s σ H (Q : List V → Hp → Prop) (A : List W → AS → Prop), Rel B F al s σ H → aa s A →
  (∀ ws s' F' al' H' vs, Ext F F' al al' s.st.length s'.st.length → Rel B F' al' s' σ H' → WVs F' al' s'.st.length ws vs → A ws s' → Q vs H') → ta σ H Q
structure RD (B : Bs) (D : Ends) (A : AEnds) : Prop where
  nx : ∀ F al s σ H, Rel B F al s σ H → A.nx s → D.nx σ H
  rt : ∀ F al st H n v, RelS B F al st H → NV B F al st H n v → A.rt n st → D.rt v H
  bk : ∀ F al s σ H, Rel B F al s σ H → A.bk s → D.bk σ H
  ct : ∀ F al s σ H, Rel B F al s σ H → A.ct s → D.ct σ H
def RS (Z : EX) (ts : TS) (as : ASt) : Prop := ∀ B, Okx B Z → ∀ D A, RD B D A → ∀ F al s σ H, Rel B F al s σ H → as A s → ts D σ H

/-! ### reading -/
def Tv (F H : Hp) (v : V) : D → Prop
  | .lst ds => ∃ a vs, v = .ref a ∧ H a = some (.lst vs) ∧ DvAll F vs ds
  | .tup ds => ∃ a vs, v = .ref a ∧ H a = some (.tup vs) ∧ DvAll F vs ds
  | .dic ks ds => ∃ a kvs, v = .ref a ∧ H a = some (.dK kvs) ∧ ks = kvs.map (fun kv => kD kv.1) ∧ DvAll F (kvs.map (·.2)) ds
  | .ins C ns ds => ∃ a dx fs, v = .ref a ∧ H a = some (.ins C dx fs) ∧ ns = fs.map (·.1) ∧ DvAll F (fs.map (·.2)) ds
  | x => Dv F v x
section
variable {B : Bs} {F F' H H' : Hp} {al al' : Nat → Addr} {s s' : AS} {σ σ' : L2.St} {v : V} {x : D} {r : R} {c : Cell} {o : HO} {a p : Addr} {i n : Nat} {w : W}
theorem Tv.of (sm : Same F H) (h : Dv F v x) : Tv F H v x := by
  cases h with
  | non => exact .non
  | bl b => exact .bl b
  | int j => exact .int j
  | str z => exact .str z
  | lst e h => exact ⟨_, _, rfl, sm _ _ e, h⟩
  | tup e h => exact ⟨_, _, rfl, sm _ _ e, h⟩
  | dK e h => exact ⟨_, _, rfl, sm _ _ e, rfl, h⟩
  | ins e h => exact ⟨_, _, _, rfl, sm _ _ e, rfl, h⟩
theorem Tv.dv (sm : Same F H) (h : Tv F H v x) : Dv H v x := by
  cases x with
  | non => exact Dv.mono sm h
  | bl b => exact Dv.mono sm h
  | int j => exact Dv.mono sm h
  | str z => exact Dv.mono sm h
  | lst ds => obtain ⟨a, vs, rfl, e, h⟩ := h; exact .lst e (h.mono sm)
  | tup ds => obtain ⟨a, vs, rfl, e, h⟩ := h; exact .tup e (h.mono sm)
  | dic ks ds => obtain ⟨a, kvs, rfl, e, rfl, h⟩ := h; exact .dK e (h.mono sm)
  | ins C ns ds => obtain ⟨a, dx, fs, rfl, e, rfl, h⟩ := h; exact .ins e (h.mono sm)
theorem dvAll_pairs : ∀ {kvs : List (Key × V)} {kds : List (Key × D)}, Paired (fun (p : Key × V) (q : Key × D) => p.1 = q.1 ∧ Dv F p.2 q.2) kvs kds → kds.map (fun kv => kD kv.1) = kvs.map (fun kv => kD kv.1) ∧ DvAll F (kvs.map (·.2)) (kds.map (·.2))
  | _, _, .nil => ⟨rfl, .nil⟩
  | _, _, .cons h t => by
    obtain ⟨h1, h2⟩ := dvAll_pairs t
    refine ⟨?_, .cons h.2 h2⟩
    rw [List.map_cons, List.map_cons, h1, h.1]
theorem CO.tv {L : Nat} (e : H a = some o) (h : CO F al L o c) (hx : cellD c = some x) : Tv F H (.ref a) x := by
  cases h with
  | lst h => cases hx; exact ⟨_, _, rfl, e, h⟩
  | dic h => cases hx; obtain ⟨h1, h2⟩ := dvAll_pairs h; exact ⟨_, _, rfl, e, h1, h2⟩
  | ins h => cases hx
  | lsw h => cases hx
theorem Rel.peekW (X : Rel B F al s σ H) (h : WV F al s.st.length w v) (e : peekW s w = some x) : Tv F H v x := by
  cases w with
  | d d => cases e; exact Tv.of X.sm h
  | loc n =>
    obtain ⟨rfl, hn⟩ := h
    have e' : (match s.st[n]? with | some c => cellD c | none => none) = some x := e
    cases q : s.st[n]? with
    | none => rw [q] at e'; cases e'
    | some c =>
      rw [q] at e'
      obtain ⟨_, _, o, ho, hc⟩ := X.cl n c q
      exact hc.tv ho e'
  | raw u φ => cases e
theorem Rel.peek (X : Rel B F al s σ H) (h : RV F al s.st.length σ r v) (e : peek s r = some x) : Tv F H v x := by
  cases r with
  | w w => exact X.peekW h e
  | sl i =>
    have h : σ[i]? = some (some v) := h
    have e' : (match s.env[i]? with | some (.own c) => cellD c | some (.v w) => Zi.peekW s w | _ => none) = some x := e
    cases q : s.env[i]? with
    | none => rw [q] at e'; cases e'
    | some z =>
      rw [q] at e'
      cases z with
      | no => cases e'
      | v w =>
        obtain ⟨u, hu, hw⟩ := X.ev i w q
        rw [h] at hu; cases hu
        exact X.peekW hw e'
      | own c =>
        obtain ⟨a, ha, _, ⟨_, o, ho, hc⟩, _⟩ := X.eo i c q
        rw [h] at ha; cases ha
        exact hc.tv ho e'
/-! ### steps of a state -/
/-- the heap changes, nowhere at a cell -/
theorem Rel.heap (X : Rel B F al s σ H) (k : ∀ b u, H b = some u → (B.G b = some u ∨ F b = some u ∨ (∃ n, n < s.st.length ∧ al n = b) ∨ ∃ (i : Nat) (c : Cell), s.env[i]? = some (Sl.own c) ∧ σ[i]? = some (some (V.ref b))) → H' b = some u) : Rel B F al s σ H' where
  sm := fun b u e => k b u (X.sm b u e) (.inr (.inl e))
  sg := fun b u e => k b u (X.sg b u e) (.inl e)
  fg := X.fg
  ex := X.ex
  ss := X.ss
  cl := fun n c e => by
    obtain ⟨g, f, o, ho, hc⟩ := X.cl n c e
    exact ⟨g, f, o, k _ _ ho (.inr (.inr (.inl ⟨n, (List.getElem?_eq_some_iff.mp e).1, rfl⟩))), hc⟩
  le := X.le
  ev := X.ev
  eo := fun i c e => by
    obtain ⟨a, ha, g, ⟨f, o, ho, hc⟩, h1, h2⟩ := X.eo i c e
    exact ⟨a, ha, g, ⟨f, o, k _ _ ho (.inr (.inr (.inr ⟨i, c, e, ha⟩))), hc⟩, h1, h2⟩
theorem Rel.new (X : Rel B F al s σ H) (n : H p = none) : Rel B F al s σ (upd H p o) := X.heap fun b u e _ => by rw [upd_ne (ne_of_none e n)]; exact e
/-- p is no cell of ours -/
structure Apart (B : Bs) (F : Hp) (al : Nat → Addr) (s : AS) (σ : L2.St) (p : Addr) : Prop where
  g : B.G p = none
  f : F p = none
  a : ∀ n, n < s.st.length → al n ≠ p
  e : ∀ (i : Nat) (c : Cell), s.env[i]? = some (Sl.own c) → σ[i]? ≠ some (some (V.ref p))
theorem Rel.apart (X : Rel B F al s σ H) (n : H p = none) : Apart B F al s σ p where
  g := X.sg.free n
  f := X.sm.free n
  a := fun k hk e => by
    obtain ⟨_, _, o, ho, _⟩ := X.cl k _ (List.getElem?_eq_getElem hk)
    rw [e, n] at ho; cases ho
  e := fun i c hi e => by
    obtain ⟨a, ha, _, ⟨_, o, ho, _⟩, _⟩ := X.eo i c hi
    rw [e] at ha; cases ha
    rw [n] at ho; cases ho
theorem Ext.frz {L : Nat} (f : F p = none) : Ext F (upd F p o) al al L L := ⟨fun b u e => by rw [upd_ne (ne_of_none e f)]; exact e, Nat.le_refl _, fun _ _ => rfl⟩
/-- what is none of ours is frozen -/
theorem Rel.frz (X : Rel B F al s σ H) (A : Apart B F al s σ p) (h : H p = some o) : Rel B (upd F p o) al s σ H where
  sm := fun b u e => by
    by_cases q : b = p
    · subst q; rw [upd_same] at e; rw [← e]; exact h
    · rw [upd_ne q] at e; exact X.sm b u e
  sg := X.sg
  fg := fun b u e => by rw [upd_ne (ne_of_none e A.g)]; exact X.fg b u e
  ex := X.ex.trans (Ext.frz A.f)
  ss := X.ss
  cl := fun n c e => by
    obtain ⟨g, f, o', ho, hc⟩ := X.cl n c e
    exact ⟨g, by rw [upd_ne (A.a n (List.getElem?_eq_some_iff.mp e).1)]; exact f, o', ho, hc.ext (Ext.frz A.f)⟩
  le := X.le
  ev := fun i w e => by
    obtain ⟨v, h1, h2⟩ := X.ev i w e
    exact ⟨v, h1, h2.ext (Ext.frz A.f)⟩
  eo := fun i c e => by
    obtain ⟨a, ha, g, ⟨f, o', ho, hc⟩, h1, h2⟩ := X.eo i c e
    exact ⟨a, ha, g, ⟨by rw [upd_ne (fun z => A.e i c e (by rw [← z]; exact ha))]; exact f, o', ho, hc.ext (Ext.frz A.f)⟩, h1, h2⟩
/-- a slot is forgotten -/
theorem Rel.drop (X : Rel B F al s σ H) (i : Nat) : Rel B F al ⟨s.env.set i .no, s.st⟩ σ H where
  toRelS := X.toRelS
  le := by rw [List.length_set]; exact X.le
  ev := fun j w e => by
    by_cases q : i = j
    · subst q; rw [List.getElem?_set] at e; simp at e
    · rw [List.getElem?_set_ne q] at e; exact X.ev j w e
  eo := fun j c e => by
    by_cases q : i = j
    · subst q; rw [List.getElem?_set] at e; simp at e
    · rw [List.getElem?_set_ne q] at e
      obtain ⟨a, ha, g, hc, h1, h2⟩ := X.eo j c e
      refine ⟨a, ha, g, hc, h1, fun k c' ek => ?_⟩
      by_cases q : i = k
      · subst q; rw [List.getElem?_set] at ek; simp at ek
      · rw [List.getElem?_set_ne q] at ek; exact h2 k c' ek
theorem set_self {α : Type} {xs : List α} {i : Nat} {x y : α} (h : (xs.set i x)[i]? = some y) : i < xs.length ∧ x = y := by
  have := (List.getElem?_eq_some_iff.mp h).1
  rw [List.length_set] at this
  rw [List.getElem?_set_self this] at h
  exact ⟨this, Option.some.inj h⟩
/-- a slot takes a value -/
theorem Rel.setV (X : Rel B F al s σ H) (i : Nat) (h : WV F al s.st.length w v) : Rel B F al ⟨s.env.set i (.v w), s.st⟩ (σ.set i (some v)) H where
  toRelS := X.toRelS
  le := by rw [List.length_set, List.length_set]; exact X.le
  ev := fun j w' e => by
    by_cases q : i = j
    · subst q
      obtain ⟨hl, e⟩ := set_self e
      cases e
      exact ⟨v, List.getElem?_set_self (Nat.lt_of_lt_of_le hl X.le), h⟩
    · rw [List.getElem?_set_ne q] at e
      obtain ⟨u, h1, h2⟩ := X.ev j w' e
      exact ⟨u, by rw [List.getElem?_set_ne q]; exact h1, h2⟩
  eo := fun j c e => by
    by_cases q : i = j
    · subst q; obtain ⟨_, e⟩ := set_self e; cases e
    · rw [List.getElem?_set_ne q] at e
      obtain ⟨a, ha, g, hc, h1, h2⟩ := X.eo j c e
      refine ⟨a, by rw [List.getElem?_set_ne q]; exact ha, g, hc, h1, fun k c' ek hk => ?_⟩
      by_cases q' : i = k
      · subst q'; obtain ⟨_, ek⟩ := set_self ek; cases ek
      · rw [List.getElem?_set_ne q'] at ek hk; exact h2 k c' ek hk
/-- a slot takes a new container -/
theorem Rel.setN (X : Rel B F al s σ H) (i : Nat) (A : Apart B F al s σ p) (h : CAt F al s.st.length H p c) : Rel B F al ⟨s.env.set i (.own c), s.st⟩ (σ.set i (some (.ref p))) H where
  toRelS := X.toRelS
  le := by rw [List.length_set, List.length_set]; exact X.le
  ev := fun j w' e => by
    by_cases q : i = j
    · subst q; obtain ⟨_, e⟩ := set_self e; cases e
    · rw [List.getElem?_set_ne q] at e
      obtain ⟨u, h1, h2⟩ := X.ev j w' e
      exact ⟨u, by rw [List.getElem?_set_ne q]; exact h1, h2⟩
  eo := fun j c' e => by
    by_cases q : i = j
    · subst q
      obtain ⟨hl, e⟩ := set_self e
      cases e
      refine ⟨p, List.getElem?_set_self (Nat.lt_of_lt_of_le hl X.le), A.g, h, A.a, fun k c' ek hk => ?_⟩
      by_cases q' : i = k
      · exact q'.symm
      · rw [List.getElem?_set_ne q'] at ek hk; exact (A.e k c' ek hk).elim
    · rw [List.getElem?_set_ne q] at e
      obtain ⟨a, ha, g, hc, h1, h2⟩ := X.eo j c' e
      refine ⟨a, by rw [List.getElem?_set_ne q]; exact ha, g, hc, h1, fun k c'' ek hk => ?_⟩
      by_cases q' : i = k
      · subst q'
        obtain ⟨hl, _⟩ := set_self ek
        rw [List.getElem?_set_self (Nat.lt_of_lt_of_le hl X.le)] at hk
        cases hk
        exact (A.e j c' e ha).elim
      · rw [List.getElem?_set_ne q'] at ek hk; exact h2 k c'' ek hk
/-- a slot's container is changed -/
theorem Rel.putO {c' : Cell} {o' : HO} (X : Rel B F al s σ H) (e : s.env[i]? = some (Sl.own c)) (ha : σ[i]? = some (some (V.ref a))) (h : CO F al s.st.length o' c') : Rel B F al ⟨s.env.set i (.own c'), s.st⟩ σ (upd H a o') := by
  obtain ⟨b, hb, g, ⟨f, o, ho, hc⟩, h1, h2⟩ := X.eo i c e
  rw [ha] at hb; cases hb
  have hi : i < s.env.length := (List.getElem?_eq_some_iff.mp e).1
  refine ⟨⟨fun b u q => ?_, fun b u q => ?_, X.fg, X.ex, X.ss, fun n c'' q => ?_⟩, by rw [List.length_set]; exact X.le, fun j w q => ?_, fun j c'' q => ?_⟩
  · rw [upd_ne (ne_of_none q f)]; exact X.sm b u q
  · rw [upd_ne (ne_of_none q g)]; exact X.sg b u q
  · obtain ⟨g', f', o'', ho', hc'⟩ := X.cl n c'' q
    exact ⟨g', f', o'', by rw [upd_ne (h1 n (List.getElem?_eq_some_iff.mp q).1)]; exact ho', hc'⟩
  · by_cases z : i = j
    · subst z; obtain ⟨_, q⟩ := set_self q; cases q
    · rw [List.getElem?_set_ne z] at q; exact X.ev j w q
  · by_cases z : i = j
    · subst z
      obtain ⟨_, q⟩ := set_self q
      cases q
      refine ⟨a, ha, g, ⟨f, o', upd_same, h⟩, h1, fun k c'' ek hk => ?_⟩
      by_cases z' : i = k
      · exact z'.symm
      · rw [List.getElem?_set_ne z'] at ek; exact h2 k c'' ek hk
    · rw [List.getElem?_set_ne z] at q
      obtain ⟨a', ha', g', ⟨f', o'', ho', hc'⟩, h1', h2'⟩ := X.eo j c'' q
      have ne : a' ≠ a := fun y => z (h2' i c e (by rw [y]; exact ha))
      refine ⟨a', ha', g', ⟨f', o'', by rw [upd_ne ne]; exact ho', hc'⟩, h1', fun k c3 ek hk => ?_⟩
      by_cases z' : i = k
      · subst z'
        rw [ha] at hk; cases hk
        exact (ne rfl).elim
      · rw [List.getElem?_set_ne z'] at ek; exact h2' k c3 ek hk
/-- a cell of the store is changed -/
theorem Rel.putS {c' : Cell} {o' : HO} (X : Rel B F al s σ H) (e : s.st[n]? = some c) (h : CO F al s.st.length o' c') : Rel B F al ⟨s.env, s.st.set n c'⟩ σ (upd H (al n) o') := by
  obtain ⟨g, f, o, ho, hc⟩ := X.cl n c e
  have hn : n < s.st.length := (List.getElem?_eq_some_iff.mp e).1
  have hL : (s.st.set n c').length = s.st.length := List.length_set
  refine ⟨⟨fun b u q => ?_, fun b u q => ?_, X.fg, ?_, ?_, fun m c'' q => ?_⟩, X.le, fun j w q => ?_, fun j c'' q => ?_⟩
  · rw [upd_ne (ne_of_none q f)]; exact X.sm b u q
  · rw [upd_ne (ne_of_none q g)]; exact X.sg b u q
  · show Ext _ _ _ _ _ (s.st.set n c').length
    rw [hL]; exact X.ex
  · show ∀ n' m : Nat, n' < (s.st.set n c').length → m < (s.st.set n c').length → _
    rw [hL]; exact X.ss
  · show _ ∧ CAt F al (s.st.set n c').length _ _ _
    rw [hL]
    by_cases z : n = m
    · subst z
      obtain ⟨_, q⟩ := set_self q
      cases q
      exact ⟨g, f, o', upd_same, h⟩
    · have q : (s.st.set n c')[m]? = some c'' := q
      rw [List.getElem?_set_ne z] at q
      obtain ⟨g', f', o'', ho', hc'⟩ := X.cl m c'' q
      exact ⟨g', f', o'', by rw [upd_ne (fun y => z (X.ss m n (List.getElem?_eq_some_iff.mp q).1 hn y).symm)]; exact ho', hc'⟩
  · show ∃ v, _ ∧ WV F al (s.st.set n c').length w v
    rw [hL]; exact X.ev j w q
  · obtain ⟨a', ha', g', ⟨f', o'', ho', hc'⟩, h1', h2'⟩ := X.eo j c'' q
    have hh : ∀ k, k < (s.st.set n c').length → al k ≠ a' := by rw [hL]; exact h1'
    refine ⟨a', ha', g', ?_, hh, h2'⟩
    show CAt F al (s.st.set n c').length _ _ _
    rw [hL]
    exact ⟨f', o'', by rw [upd_ne (fun y => h1' n hn y.symm)]; exact ho', hc'⟩
/-- the store grows by a new container -/
theorem Rel.push (X : Rel B F al s σ H) (A : Apart B F al s σ p) (h : CAt F al s.st.length H p c) :
    ∃ al', Ext F F al al' s.st.length (s.st ++ [c]).length ∧ al' s.st.length = p ∧ Rel B F al' ⟨s.env, s.st ++ [c]⟩ σ H := by
  have hx : Ext F F al (fun n => if n = s.st.length then p else al n) s.st.length (s.st ++ [c]).length :=
    ⟨fun _ _ e => e, by rw [List.length_append]; omega, fun n hn => if_neg (Nat.ne_of_lt hn)⟩
  refine ⟨_, hx, if_pos rfl, ⟨X.sm, X.sg, X.fg, X.ex.trans hx, fun n m hn hm e => ?_, fun n c' e => ?_⟩, X.le, fun j w e => ?_, fun j c' e => ?_⟩
  · have hn : n < (s.st ++ [c]).length := hn
    have hm : m < (s.st ++ [c]).length := hm
    rw [List.length_append, List.length_singleton] at hn hm
    have e : (if n = s.st.length then p else al n) = if m = s.st.length then p else al m := e
    by_cases hn' : n = s.st.length
    · by_cases hm' : m = s.st.length
      · rw [hn', hm']
      · rw [if_pos hn', if_neg hm'] at e
        exact (A.a m (by omega) e.symm).elim
    · by_cases hm' : m = s.st.length
      · rw [if_neg hn', if_pos hm'] at e
        exact (A.a n (by omega) e).elim
      · rw [if_neg hn', if_neg hm'] at e
        exact X.ss n m (by omega) (by omega) e
  · have e : (s.st ++ [c])[n]? = some c' := e
    by_cases hn : n < s.st.length
    · rw [List.getElem?_append_left hn] at e
      obtain ⟨g, f, o, ho, hc⟩ := X.cl n c' e
      have q : (if n = s.st.length then p else al n) = al n := if_neg (Nat.ne_of_lt hn)
      exact ⟨by show B.G (if _ then _ else _) = none; rw [q]; exact g, by show F (if _ then _ else _) = none; rw [q]; exact f, o, by show H (if _ then _ else _) = _; rw [q]; exact ho, hc.ext hx⟩
    · have hl := (List.getElem?_eq_some_iff.mp e).1
      rw [List.length_append, List.length_singleton] at hl
      have hn : n = s.st.length := by omega
      subst hn
      rw [List.getElem?_append_right (Nat.le_refl _), Nat.sub_self] at e
      cases e
      obtain ⟨f, o, ho, hc⟩ := h
      have q : (if s.st.length = s.st.length then p else al s.st.length) = p := if_pos rfl
      exact ⟨by show B.G (if _ then _ else _) = none; rw [q]; exact A.g, by show F (if _ then _ else _) = none; rw [q]; exact f, o, by show H (if _ then _ else _) = _; rw [q]; exact ho, hc.ext hx⟩
  · obtain ⟨v, h1, h2⟩ := X.ev j w e
    exact ⟨v, h1, h2.ext hx⟩
  · obtain ⟨a, ha, g, ⟨f, o, ho, hc⟩, h1, h2⟩ := X.eo j c' e
    refine ⟨a, ha, g, ⟨f, o, ho, hc.ext hx⟩, fun n hn q => ?_, h2⟩
    have hn : n < (s.st ++ [c]).length := hn
    rw [List.length_append, List.length_singleton] at hn
    have q : (if n = s.st.length then p else al n) = a := q
    by_cases hn' : n = s.st.length
    · rw [if_pos hn'] at q
      exact A.e j c' e (by rw [q]; exact ha)
    · rw [if_neg hn'] at q
      exact h1 n (by omega) q
/-- a slot's container leaves its slot -/
theorem Rel.move (X : Rel B F al s σ H) (e : s.env[i]? = some (Sl.own c)) : ∃ a, σ[i]? = some (some (V.ref a)) ∧ CAt F al s.st.length H a c ∧ Rel B F al ⟨s.env.set i .no, s.st⟩ σ H ∧ Apart B F al ⟨s.env.set i .no, s.st⟩ σ a := by
  obtain ⟨a, ha, g, hc, h1, h2⟩ := X.eo i c e
  refine ⟨a, ha, hc, X.drop i, g, hc.f, h1, fun j c' ej hj => ?_⟩
  by_cases z : i = j
  · subst z; rw [List.getElem?_set] at ej; simp at ej
  · have ej : (s.env.set i .no)[j]? = some (Sl.own c') := ej
    rw [List.getElem?_set_ne z] at ej
    exact z (h2 j c' ej hj).symm
end
end Zi

set_option Elab.async false
set_option linter.all false
set_option maxRecDepth 100000
set_option maxHeartbeats 1000000
/-! Zj: the constructs' transformers, each sound. -/
namespace Zi
open PySem PySem.Spec PyProof.Rows L2 Ly
section
variable {Z : EX} {K : PySem.W.Frag} {B : Bs} {F F' H H' : Hp} {al al' : Nat → Addr} {s s' : AS} {σ σ' : L2.St} {v : V} {x : D} {r : R} {c : Cell} {o : HO} {a p : Addr} {i n : Nat} {w : W}
theorem set_same {α : Type} : ∀ {xs : List α} {i : Nat} {x : α}, xs[i]? = some x → xs.set i x = xs
  | [], _, _, h => by simp at h
  | y :: ys, 0, x, h => by simp at h; subst h; rfl
  | y :: ys, i + 1, x, h => by
    rw [List.set_cons_succ, set_same (by simpa using h)]
/-! ### from results to values -/
/-- what is stored or handed on: a slot's container is frozen -/
def toW (r : R) (s : AS) (k : W → AS → Prop) : Prop := match r with
  | .w w => k w s
  | .sl i => match s.env[i]? with
    | some (.v w) => k w s
    | some (.own c) => match cellD c with
      | some x => k (.d x) ⟨s.env.set i (.v (.d x)), s.st⟩
      | none => k (.loc s.st.length) ⟨s.env.set i (.v (.loc s.st.length)), s.st ++ [c]⟩
    | _ => False
/-- what is handed on to be changed: a slot's container goes to the store -/
def toL (r : R) (s : AS) (k : W → AS → Prop) : Prop := match r with
  | .w w => k w s
  | .sl i => match s.env[i]? with
    | some (.v w) => k w s
    | some (.own c) => k (.loc s.st.length) ⟨s.env.set i (.v (.loc s.st.length)), s.st ++ [c]⟩
    | _ => False
def nToW (n : N) (s : AS) (k : W → AS → Prop) : Prop := match n with
  | .w w => k w s
  | .new c => match cellD c with
    | some x => k (.d x) s
    | none => k (.loc s.st.length) ⟨s.env, s.st ++ [c]⟩
theorem CO.dv {L : Nat} (e : F a = some o) (h : CO F al L o c) (hx : cellD c = some x) : Dv F (.ref a) x := (h.tv (H := F) e hx).dv fun _ _ e => e
theorem Rel.frzD (X : Rel B F al s σ H) (A : Apart B F al s σ p) (C : CAt F al s.st.length H p c) (hx : cellD c = some x) : ∃ F', Ext F F' al al s.st.length s.st.length ∧ Rel B F' al s σ H ∧ Dv F' (.ref p) x := by
  obtain ⟨f, o, ho, hc⟩ := C
  exact ⟨_, Ext.frz f, X.frz A ho, (hc.ext (Ext.frz f)).dv upd_same hx⟩
theorem Rel.setSame (X : Rel B F al s σ H) (e : σ[i]? = some (some v)) (h : WV F al s.st.length w v) : Rel B F al ⟨s.env.set i (.v w), s.st⟩ σ H := by
  have := X.setV i h
  rw [set_same e] at this
  exact this
theorem Rel.lift (X : Rel B F al s σ H) (e : s.env[i]? = some (Sl.own c)) : ∃ al' a, Ext F F al al' s.st.length (s.st ++ [c]).length ∧ σ[i]? = some (some (V.ref a)) ∧ al' s.st.length = a ∧ Rel B F al' ⟨s.env.set i (.v (.loc s.st.length)), s.st ++ [c]⟩ σ H := by
  obtain ⟨a, ha, C, X1, A⟩ := X.move e
  obtain ⟨al', x, ea, X2⟩ := X1.push A C
  refine ⟨al', a, x, ha, ea, ?_⟩
  have := X2.setSame (i := i) (v := .ref a) (w := .loc s.st.length) ha ⟨by rw [ea], by show _ < (s.st ++ [c]).length; rw [List.length_append]; simp⟩
  rwa [show ((⟨s.env.set i .no, s.st ++ [c]⟩ : AS).env.set i (.v (.loc s.st.length))) = s.env.set i (.v (.loc s.st.length)) from List.set_set ..] at this
theorem toW_ok {k : W → AS → Prop} (X : Rel B F al s σ H) (h : RV F al s.st.length σ r v) (e : toW r s k) :
    ∃ F' al' w s', Ext F F' al al' s.st.length s'.st.length ∧ Rel B F' al' s' σ H ∧ WV F' al' s'.st.length w v ∧ k w s' := by
  cases r with
  | w w => exact ⟨F, al, w, s, Ext.refl, X, h, e⟩
  | sl i =>
    have h : σ[i]? = some (some v) := h
    unfold toW at e
    simp only at e
    cases q : s.env[i]? with
    | none => rw [q] at e; exact e.elim
    | some z =>
      rw [q] at e
      cases z with
      | no => exact e.elim
      | v w =>
        obtain ⟨u, hu, hw⟩ := X.ev i w q
        rw [h] at hu; cases hu
        exact ⟨F, al, w, s, Ext.refl, X, hw, e⟩
      | own c =>
        simp only at e
        cases z : cellD c with
        | some x =>
          rw [z] at e
          obtain ⟨a, ha, C, X1, A⟩ := X.move q
          rw [h] at ha; cases ha
          obtain ⟨F', x', X2, d⟩ := X1.frzD A C z
          have X3 := X2.setSame (i := i) (v := .ref a) (w := .d x) h d
          rw [show ((⟨s.env.set i .no, s.st⟩ : AS).env.set i (.v (.d x))) = s.env.set i (.v (.d x)) from List.set_set ..] at X3
          exact ⟨F', al, .d x, ⟨s.env.set i (.v (.d x)), s.st⟩, x', X3, d, e⟩
        | none =>
          rw [z] at e
          obtain ⟨al', a, x, ha, ea, X1⟩ := X.lift q
          rw [h] at ha; cases ha
          exact ⟨F, al', .loc s.st.length, _, x, X1, ⟨by rw [ea], by show _ < (s.st ++ [c]).length; rw [List.length_append]; simp⟩, e⟩
theorem toL_ok {k : W → AS → Prop} (X : Rel B F al s σ H) (h : RV F al s.st.length σ r v) (e : toL r s k) :
    ∃ F' al' w s', Ext F F' al al' s.st.length s'.st.length ∧ Rel B F' al' s' σ H ∧ WV F' al' s'.st.length w v ∧ k w s' := by
  cases r with
  | w w => exact ⟨F, al, w, s, Ext.refl, X, h, e⟩
  | sl i =>
    have h : σ[i]? = some (some v) := h
    unfold toL at e
    simp only at e
    cases q : s.env[i]? with
    | none => rw [q] at e; exact e.elim
    | some z =>
      rw [q] at e
      cases z with
      | no => exact e.elim
      | v w =>
        obtain ⟨u, hu, hw⟩ := X.ev i w q
        rw [h] at hu; cases hu
        exact ⟨F, al, w, s, Ext.refl, X, hw, e⟩
      | own c =>
        obtain ⟨al', a, x, ha, ea, X1⟩ := X.lift q
        rw [h] at ha; cases ha
        exact ⟨F, al', .loc s.st.length, _, x, X1, ⟨by rw [ea], by show _ < (s.st ++ [c]).length; rw [List.length_append]; simp⟩, e⟩
theorem NVe.apart {c : Cell} (h : NVe B F al s σ H (.new c) v) : ∃ p, v = .ref p ∧ Apart B F al s σ p ∧ CAt F al s.st.length H p c := by
  obtain ⟨⟨p, rfl, g, C, a⟩, e⟩ := h
  exact ⟨p, rfl, ⟨g, C.f, a, e c rfl⟩, C⟩
theorem Apart.nve {c : Cell} (A : Apart B F al s σ p) (C : CAt F al s.st.length H p c) : NVe B F al s σ H (.new c) (.ref p) := ⟨⟨p, rfl, A.g, C, A.a⟩, fun _ _ => A.e⟩
theorem NVe.val {w : W} (h : WV F al s.st.length w v) : NVe B F al s σ H (.w w) v := ⟨h, fun c z => by cases z⟩
theorem nToW_ok {k : W → AS → Prop} {n : N} (X : Rel B F al s σ H) (h : NVe B F al s σ H n v) (e : nToW n s k) :
    ∃ F' al' w s', Ext F F' al al' s.st.length s'.st.length ∧ Rel B F' al' s' σ H ∧ WV F' al' s'.st.length w v ∧ k w s' := by
  cases n with
  | w w => exact ⟨F, al, w, s, Ext.refl, X, h.1, e⟩
  | new c =>
    obtain ⟨p, rfl, A, C⟩ := h.apart
    unfold nToW at e
    simp only at e
    cases z : cellD c with
    | some x =>
      rw [z] at e
      obtain ⟨F', x', X2, d⟩ := X.frzD A C z
      exact ⟨F', al, .d x, s, x', X2, d, e⟩
    | none =>
      rw [z] at e
      obtain ⟨al', x, ea, X2⟩ := X.push A C
      exact ⟨F, al', .loc s.st.length, _, x, X2, ⟨by rw [ea], by show _ < (s.st ++ [c]).length; rw [List.length_append]; simp⟩, e⟩
/-- the new containers' expressions as any -/
def aFz (an : AN) : AE := fun s A => an s fun n s' => nToW n s' fun w s2 => A (.w w) s2
theorem RE.fz {te : TE} {an : AN} (h : RN Z te an) : RE Z te (aFz an) := fun B hB F al s σ H Q A X e q =>
  h B hB F al s σ H Q _ X e fun n s1 F1 al1 H1 v x1 X1 nv e1 => by
    obtain ⟨F2, al2, w, s2, x2, X2, wv, e2⟩ := nToW_ok X1 nv e1
    exact q (.w w) s2 F2 al2 H1 v (x1.trans x2) X2 wv e2
def aN (ae : AE) : AN := fun s A => ae s fun r s1 => toW r s1 fun w s2 => A (.w w) s2
theorem RN.of {te : TE} {ae : AE} (h : RE Z te ae) : RN Z te (aN ae) := fun B hB F al s σ H Q A X e q =>
  h B hB F al s σ H Q _ X e fun r s1 F1 al1 H1 v x1 X1 rv e1 => by
    obtain ⟨F2, al2, w, s2, x2, X2, wv, e2⟩ := toW_ok X1 rv e1
    exact q (.w w) s2 F2 al2 H1 v (x1.trans x2) X2 (NVe.val wv) e2
/-- a slot whose container is handed back -/
def aMove (i : Nat) : AN := fun s A => match s.env[i]? with
  | some (.v w) => A (.w w) s
  | some (.own c) => A (.new c) ⟨s.env.set i .no, s.st⟩
  | _ => False
theorem RN.move {i : Nat} : RN Z (tVar i) (aMove i) := fun B hB F al s σ H Q A X e q => by
  unfold aMove at e
  cases z : s.env[i]? with
  | none => rw [z] at e; exact e.elim
  | some y =>
    rw [z] at e
    cases y with
    | no => exact e.elim
    | v w =>
      obtain ⟨u, hu, hw⟩ := X.ev i w z
      exact ⟨u, hu, q (.w w) s F al H u Ext.refl X (NVe.val hw) e⟩
    | own c =>
      obtain ⟨a, ha, C, X1, A1⟩ := X.move z
      exact ⟨_, ha, q (.new c) ⟨s.env.set i .no, s.st⟩ F al H _ Ext.refl X1 (A1.nve C) e⟩
/-! ### names, constants, operators -/
def aVar (i : Nat) : AE := fun s A => match s.env[i]? with
  | some (.v w) => A (.w w) s
  | some (.own _) => A (.sl i) s
  | _ => False
theorem RE.var {i : Nat} : RE Z (tVar i) (aVar i) := fun B hB F al s σ H Q A X e q => by
  unfold aVar at e
  cases z : s.env[i]? with
  | none => rw [z] at e; exact e.elim
  | some y =>
    rw [z] at e
    cases y with
    | no => exact e.elim
    | v w =>
      obtain ⟨u, hu, hw⟩ := X.ev i w z
      exact ⟨u, hu, q (.w w) s F al H u Ext.refl X hw e⟩
    | own c =>
      obtain ⟨a, ha, _⟩ := X.eo i c z
      exact ⟨_, ha, q (.sl i) s F al H _ Ext.refl X ha e⟩
def aC (x : D) : AE := fun s A => A (.w (.d x)) s
theorem RE.cst {x : D} {v : V} (h : ∀ F, Dv F v x) : RE Z (tC v) (aC x) := fun B hB F al s σ H Q A X e q => q (.w (.d x)) s F al H v Ext.refl X (h F) e
theorem RE.int {i : Int} : RE Z (tC (.int i)) (aC (.int i)) := RE.cst fun _ => .int i
theorem RE.str {i : Str} : RE Z (tC (.str i)) (aC (.str i)) := RE.cst fun _ => .str i
theorem RE.bl {i : Bool} : RE Z (tC (.bl i)) (aC (.bl i)) := RE.cst fun _ => .bl i
theorem RE.non : RE Z (tC .non) (aC .non) := RE.cst fun _ => .non
def aRaw (v : V) : AE := fun s A => A (.w (.raw v fun _ => True)) s
theorem RE.raw {v : V} : RE Z (tC v) (aRaw v) := fun B hB F al s σ H Q A X e q => q (.w (.raw v fun _ => True)) s F al H v Ext.refl X ⟨rfl, trivial, fun _ _ _ _ => trivial⟩ e
def pk (s : AS) (r : R) (k : D → Prop) : Prop := match peek s r with
  | some d => k d
  | none => False
theorem pk_ok {k : D → Prop} (h : pk s r k) : ∃ d, peek s r = some d ∧ k d := by
  unfold pk at h
  cases z : peek s r with
  | none => rw [z] at h; exact h.elim
  | some d => rw [z] at h; exact ⟨d, rfl, h⟩
abbrev O2 := D → D → (D → Prop) → Prop
def OR2 (r : R2) (o : O2) : Prop := ∀ (F H : Hp) (x y : V) (d e : D) (Q : VK) (A : D → Prop), Same F H → Tv F H x d → Tv F H y e → o d e A → (∀ z v, Dv F v z → A z → Q v H) → r x y H Q
def aOp (o : O2) (a b : AE) : AE := fun s A => a s fun r s1 => b s1 fun r' s2 => pk s2 r fun d => pk s2 r' fun e => o d e fun z => A (.w (.d z)) s2
theorem RE.op {r : R2} {o : O2} {ta tb : TE} {a b : AE} (hr : OR2 r o) (ha : RE Z ta a) (hb : RE Z tb b) : RE Z (tOp r ta tb) (aOp o a b) := fun B hB F al s σ H Q A X h q =>
  ha B hB F al s σ H _ _ X h fun r1 s1 F1 al1 H1 v1 x1 X1 rv1 h1 => hb B hB F1 al1 s1 σ H1 _ _ X1 h1 fun r2 s2 F2 al2 H2 v2 x2 X2 rv2 h2 => by
    obtain ⟨d, e1, h2⟩ := pk_ok h2
    obtain ⟨e, e2, h2⟩ := pk_ok h2
    exact hr F2 H2 v1 v2 d e Q _ X2.sm (X2.peek (rv1.ext x2) e1) (X2.peek rv2 e2) h2 fun z v dz hz => q (.w (.d z)) s2 F2 al2 H2 v (x1.trans x2) X2 dz hz
abbrev O2L := D → D → (List D → Prop) → Prop
def OR2L (r : R2) (o : O2L) : Prop := ∀ (F H : Hp) (x y : V) (d e : D) (Q : VK) (A : List D → Prop), Same F H → Tv F H x d → Tv F H y e → o d e A → (∀ zs p vs, H p = none → DvAll F vs zs → A zs → Q (.ref p) (upd H p (.lst vs))) → r x y H Q
theorem Rel.newL {vs : List V} {zs : List D} (X : Rel B F al s σ H) (n : H p = none) (h : DvAll F vs zs) : Rel B F al s σ (upd H p (.lst vs)) ∧ NVe B F al s σ (upd H p (.lst vs)) (.new (.lst zs)) (.ref p) :=
  ⟨X.new n, (X.apart n).nve ⟨X.sm.free n, _, upd_same, .lst h⟩⟩
def aOpL (o : O2L) (a b : AE) : AN := fun s A => a s fun r s1 => b s1 fun r' s2 => pk s2 r fun d => pk s2 r' fun e => o d e fun zs => A (.new (.lst zs)) s2
theorem RN.op {r : R2} {o : O2L} {ta tb : TE} {a b : AE} (hr : OR2L r o) (ha : RE Z ta a) (hb : RE Z tb b) : RN Z (tOp r ta tb) (aOpL o a b) := fun B hB F al s σ H Q A X h q =>
  ha B hB F al s σ H _ _ X h fun r1 s1 F1 al1 H1 v1 x1 X1 rv1 h1 => hb B hB F1 al1 s1 σ H1 _ _ X1 h1 fun r2 s2 F2 al2 H2 v2 x2 X2 rv2 h2 => by
    obtain ⟨d, e1, h2⟩ := pk_ok h2
    obtain ⟨e, e2, h2⟩ := pk_ok h2
    exact hr F2 H2 v1 v2 d e Q _ X2.sm (X2.peek (rv1.ext x2) e1) (X2.peek rv2 e2) h2 fun zs p vs n dz hz => q _ s2 F2 al2 _ _ (x1.trans x2) (X2.newL n dz).1 (X2.newL n dz).2 hz
def oI (g : Int → Int → D) : O2 := fun d e A => match d, e with
  | .int i, .int j => A (g i j)
  | _, _ => False
theorem Tv.intE {i : Int} (h : Tv F H v (.int i)) : v = .int i := Dv.intE h
theorem Tv.strE {i : Str} (h : Tv F H v (.str i)) : v = .str i := Dv.strE h
theorem Tv.blE {i : Bool} (h : Tv F H v (.bl i)) : v = .bl i := Dv.blE h
theorem oI_ok {g : Int → Int → V} {g' : Int → Int → D} (hg : ∀ F i j, Dv F (g i j) (g' i j)) : OR2 (rI0 g) (oI g') := fun F H x y d e Q A sm hx hy h q => by
  cases d <;> cases e <;> first | exact h.elim | skip
  exact ⟨_, _, hx.intE, hy.intE, q _ _ (hg _ _ _) h⟩
def oIc (C : Int → Int → Prop) (g : Int → Int → D) : O2 := fun d e A => match d, e with
  | .int i, .int j => C i j ∧ A (g i j)
  | _, _ => False
theorem oIc_ok {C : Int → Int → Prop} {g : Int → Int → V} {g' : Int → Int → D} (hg : ∀ F i j, Dv F (g i j) (g' i j)) : OR2 (rI C g) (oIc C g') := fun F H x y d e Q A sm hx hy h q => by
  cases d <;> cases e <;> first | exact h.elim | skip
  exact ⟨_, _, hx.intE, hy.intE, h.1, q _ _ (hg _ _ _) h.2⟩
/-- == -/
def eqD (d e : D) : Bool := PyData.eqv (py d) (py e)
def okD (d : D) : Bool := (py d).plain && decide ((py d).depth ≤ 60)
def oEq : O2 := fun d e A => okD d = true ∧ okD e = true ∧ A (.bl (eqD d e))
def oNe : O2 := fun d e A => okD d = true ∧ okD e = true ∧ A (.bl (!eqD d e))
theorem okD_E {d : D} (h : okD d = true) : (py d).plain = true ∧ (py d).depth ≤ 60 := by
  unfold okD at h
  rw [Bool.and_eq_true] at h
  exact ⟨h.1, of_decide_eq_true h.2⟩
theorem oEq_ok : OR2 rEqQ oEq := fun F H x y d e Q A sm hx hy h q =>
  ⟨py d, py e, (hx.dv sm).dq (okD_E h.1).1, (hy.dv sm).dq (okD_E h.2.1).1, (okD_E h.1).1, (okD_E h.2.1).1, (okD_E h.1).2, q _ _ (.bl _) h.2.2⟩
theorem oNe_ok : OR2 rNeQ oNe := fun F H x y d e Q A sm hx hy h q =>
  ⟨py d, py e, (hx.dv sm).dq (okD_E h.1).1, (hy.dv sm).dq (okD_E h.2.1).1, (okD_E h.1).1, (okD_E h.2.1).1, (okD_E h.1).2, q _ _ (.bl _) h.2.2⟩
/-- in, not in a list or tuple -/
def inD (d : D) (ds : List D) : Bool := ds.any fun z => eqD z d
def oIn (neg : Bool) : O2 := fun d e A => match e with
  | .lst ds => okD d = true ∧ ds.all okD = true ∧ A (.bl (if neg then !inD d ds else inD d ds))
  | .tup ds => okD d = true ∧ ds.all okD = true ∧ A (.bl (if neg then !inD d ds else inD d ds))
  | _ => False
theorem plainAll_of : ∀ {ds : List D}, ds.all okD = true → PyData.plainAll (pyAll ds) = true
  | [], _ => rfl
  | d :: ds, h => by
    rw [List.all_cons, Bool.and_eq_true] at h
    rw [pyAll, PyData.plainAll, (okD_E h.1).1, plainAll_of h.2]; rfl
theorem any_py (d : D) : ∀ ds : List D, ((pyAll ds).any fun z => PyData.eqv z (py d)) = inD d ds
  | [] => rfl
  | e :: ds => by
    have := any_py d ds
    unfold inD at this ⊢
    rw [pyAll, List.any_cons, List.any_cons, this]; rfl
theorem oIn_ok {neg : Bool} : OR2 (rInQ neg) (oIn neg) := fun F H x y d e Q A sm hx hy h q => by
  cases e <;> first | exact h.elim | skip
  · rename_i ds
    obtain ⟨h1, h2, h3⟩ := h
    have pl := plainAll_of h2
    refine ⟨py d, pyAll ds, (hx.dv sm).dq (okD_E h1).1, .inl ?_, (okD_E h1).1, pl, (okD_E h1).2, ?_⟩
    · exact (hy.dv sm).dq (show (PyData.list (pyAll ds)).plain = true by simpa only [PyData.plain] using pl)
    · rw [any_py]; exact q _ _ (.bl _) h3
  · rename_i ds
    obtain ⟨h1, h2, h3⟩ := h
    have pl := plainAll_of h2
    refine ⟨py d, pyAll ds, (hx.dv sm).dq (okD_E h1).1, .inr ?_, (okD_E h1).1, pl, (okD_E h1).2, ?_⟩
    · exact (hy.dv sm).dq (show (PyData.tuple (pyAll ds)).plain = true by simpa only [PyData.plain] using pl)
    · rw [any_py]; exact q _ _ (.bl _) h3
/-- an item -/
theorem DvAll.atI {vs : List V} {ds : List D} {i : Int} {d : D} (h : DvAll F vs ds) (e : atI ds i = some d) : ∃ v, L2.atI vs i = some v ∧ Dv F v d := by
  unfold L2.atI at e ⊢
  rw [h.length]
  cases z : ixN ds.length i with
  | none => rw [z] at e; cases e
  | some j =>
    rw [z] at e
    obtain ⟨v, h1, h2⟩ := h.get (show ds[j]? = some d from e)
    exact ⟨v, h1, h2⟩
def oIx : O2 := fun d e A => match d, e with
  | .lst ds, .int i => match atI ds i with
    | some z => A z
    | none => False
  | .tup ds, .int i => match atI ds i with
    | some z => A z
    | none => False
  | .str x, .int i => x.length ≤ sizeLine ∧ match atI x.cps.toList i with
    | some c => A (.str ⟨#[c]⟩)
    | none => False
  | _, _ => False
theorem oIx_ok : OR2 (rIx K) oIx := fun F H x y d e Q A sm hx hy h q => by
  cases d <;> cases e <;> first | exact h.elim | skip
  · rename_i z i
    obtain ⟨h1, h⟩ := h
    cases e : atI z.cps.toList i with
    | none => rw [e] at h; exact h.elim
    | some c => rw [e] at h; exact .inr (.inr ⟨z, i, c, hx.strE, hy.intE, h1, e, q _ _ (.str _) h⟩)
  · rename_i ds i
    have h : (match atI ds i with | some z => A z | none => False) := h
    obtain ⟨a, vs, rfl, ea, dv⟩ := hx
    cases e : atI ds i with
    | none => rw [e] at h; exact h.elim
    | some d =>
      rw [e] at h
      obtain ⟨v, h1, h2⟩ := dv.atI e
      exact .inl ⟨a, vs, i, v, rfl, hy.intE, SqL.of ea, h1, q _ _ h2 h⟩
  · rename_i ds i
    have h : (match atI ds i with | some z => A z | none => False) := h
    obtain ⟨a, vs, rfl, ea, dv⟩ := hx
    cases e : atI ds i with
    | none => rw [e] at h; exact h.elim
    | some d =>
      rw [e] at h
      obtain ⟨v, h1, h2⟩ := dv.atI e
      exact .inr (.inl ⟨a, vs, i, v, rfl, hy.intE, SqT.of ea, h1, q _ _ h2 h⟩)
/-- list + list, list * int -/
def oCat : O2L := fun d e A => match d, e with
  | .lst ds, .lst es => ds.length + es.length ≤ sizeLine ∧ A (ds ++ es)
  | _, _ => False
theorem oCat_ok : OR2L rCat oCat := fun F H x y d e Q A sm hx hy h q => by
  cases d <;> cases e <;> first | exact h.elim | skip
  rename_i ds es
  obtain ⟨h1, h2⟩ := h
  obtain ⟨a, vs, rfl, ea, dv⟩ := hx
  obtain ⟨b, ws, rfl, eb, dw⟩ := hy
  exact ⟨a, b, vs, ws, rfl, rfl, ea, eb, by rw [dv.length, dw.length]; exact h1, fun p n => q _ p _ n (dv.append dw) h2⟩
end
end Zi

set_option Elab.async false
set_option linter.all false
set_option maxRecDepth 100000
set_option maxHeartbeats 1000000
/-! Zk: slices, tests, arguments, displays, built-ins, methods, dicts, calls. -/
namespace Zi
open PySem PySem.Spec PyProof.Rows L2 Ly
section
variable {Z : EX} {K : PySem.W.Frag} {B : Bs} {F F' H H' : Hp} {al al' : Nat → Addr} {s s' : AS} {σ σ' : L2.St} {v : V} {x : D} {r : R} {cc : Cell} {o : HO} {a p : Addr} {i n : Nat} {ww : W}
/-! ### one place -/
def aUn (o : D → (D → Prop) → Prop) (a : AE) : AE := fun s A => a s fun r s1 => pk s1 r fun d => o d fun z => A (.w (.d z)) s1
theorem RE.un {r : V → Hp → VK → Prop} {o : D → (D → Prop) → Prop} {ta : TE} {a : AE} (hr : ∀ (F H : Hp) (x : V) (d : D) (Q : VK) (A : D → Prop), Same F H → Tv F H x d → o d A → (∀ z v, Dv F v z → A z → Q v H) → r x H Q) (ha : RE Z ta a) : RE Z (tUn r ta) (aUn o a) := fun B hB F al s σ H Q A X h q =>
  ha B hB F al s σ H _ _ X h fun r1 s1 F1 al1 H1 v1 x1 X1 rv1 h1 => by
    obtain ⟨d, e1, h1⟩ := pk_ok h1
    exact hr F1 H1 v1 d Q _ X1.sm (X1.peek rv1 e1) h1 fun z v dz hz => q (.w (.d z)) s1 F1 al1 H1 v x1 X1 dz hz
def oNeg : D → (D → Prop) → Prop := fun d A => match d with
  | .int i => A (.int (-i))
  | _ => False
theorem RE.neg {ta : TE} {a : AE} (ha : RE Z ta a) : RE Z (tUn (rU fun i => .int (-i)) ta) (aUn oNeg a) := RE.un (fun F H x d Q A sm hx h q => by
  cases d <;> first | exact h.elim | skip
  exact ⟨_, hx.intE, q _ _ (.int _) h⟩) ha
/-! ### parts of slices -/
abbrev AO := AS → (Option Int → AS → Prop) → Prop
def RO (Z : EX) (to : TO) (ao : AO) : Prop := ∀ B, Okx B Z → ∀ F al s σ H (Q : Option Int → Hp → Prop) (A : Option Int → AS → Prop), Rel B F al s σ H → ao s A →
  (∀ j s' F' al' H', Ext F F' al al' s.st.length s'.st.length → Rel B F' al' s' σ H' → A j s' → Q j H') → to σ H Q
def aNo : AO := fun s A => A none s
theorem RO.none : RO Z tNoPart aNo := fun B hB F al s σ H Q A X h q => q _ s F al H Ext.refl X h
def aSome (a : AE) : AO := fun s A => a s fun r s1 => pk s1 r fun d => match d with
  | .int i => A (some i) s1
  | _ => False
theorem RO.some {te : TE} {a : AE} (ha : RE Z te a) : RO Z (tPart te) (aSome a) := fun B hB F al s σ H Q A X h q =>
  ha B hB F al s σ H _ _ X h fun r1 s1 F1 al1 H1 v1 x1 X1 rv1 h1 => by
    obtain ⟨d, e1, h1⟩ := pk_ok h1
    cases d <;> first | exact h1.elim | skip
    exact ⟨_, (X1.peek rv1 e1).intE, q _ s1 F1 al1 H1 x1 X1 h1⟩
def cutZ {α : Type} (xs : List α) (lo hi : Option Int) : List α := (xs.drop (HT.sIx xs.length 0 lo)).take (HT.sIx xs.length xs.length hi - HT.sIx xs.length 0 lo)
theorem DvAll.cut {vs : List V} {ds : List D} (h : DvAll F vs ds) (lo hi : Option Int) : DvAll F (cutV vs lo hi) (cutZ ds lo hi) := by
  unfold cutV cutZ
  rw [h.length]
  exact (h.drop _).take _
def aSlL (a : AE) (l h : AO) : AN := fun s A => a s fun r s1 => l s1 fun lo s2 => h s2 fun hi s3 => pk s3 r fun d => match d with
  | .lst ds => A (.new (.lst (cutZ ds lo hi))) s3
  | _ => False
theorem RN.slL {te : TE} {tl th : TO} {a : AE} {l h : AO} (ha : RE Z te a) (hl : RO Z tl l) (hh : RO Z th h) : RN Z (tSl (rSlL K) te tl th) (aSlL a l h) := fun B hB F al s σ H Q A X e q =>
  ha B hB F al s σ H _ _ X e fun r1 s1 F1 al1 H1 v1 x1 X1 rv1 e1 => hl B hB F1 al1 s1 σ H1 _ _ X1 e1 fun lo s2 F2 al2 H2 x2 X2 e2 => hh B hB F2 al2 s2 σ H2 _ _ X2 e2 fun hi s3 F3 al3 H3 x3 X3 e3 => by
    obtain ⟨d, f1, e3⟩ := pk_ok e3
    cases d <;> first | exact e3.elim | skip
    obtain ⟨a, vs, rfl, ea, dv⟩ := X3.peek ((rv1.ext x2).ext x3) f1
    exact ⟨a, vs, rfl, SqL.of ea, fun p np => q (.new (.lst _)) s3 F3 al3 _ _ ((x1.trans x2).trans x3) (X3.newL np (dv.cut lo hi)).1 (X3.newL np (dv.cut lo hi)).2 e3⟩
theorem Rel.newT {vs : List V} {zs : List D} (X : Rel B F al s σ H) (n : H p = none) (h : DvAll F vs zs) : ∃ F', Ext F F' al al s.st.length s.st.length ∧ Rel B F' al s σ (upd H p (.tup vs)) ∧ Dv F' (.ref p) (.tup zs) :=
  ⟨_, Ext.frz (X.sm.free n), (X.new n).frz (X.apart n) upd_same, .tup upd_same (h.mono (Ext.frz (al := al) (L := 0) (X.sm.free n)).ff)⟩
def partT (n : Nat) (lo hi : Option Int) : Prop := ¬ (HT.sIx n 0 lo = 0 ∧ HT.sIx n n hi = n)
def aSlT (a : AE) (l h : AO) : AE := fun s A => a s fun r s1 => l s1 fun lo s2 => h s2 fun hi s3 => pk s3 r fun d => match d with
  | .tup ds => partT ds.length lo hi ∧ A (.w (.d (.tup (cutZ ds lo hi)))) s3
  | _ => False
theorem RE.slT {te : TE} {tl th : TO} {a : AE} {l h : AO} (ha : RE Z te a) (hl : RO Z tl l) (hh : RO Z th h) : RE Z (tSl (rSlT K) te tl th) (aSlT a l h) := fun B hB F al s σ H Q A X e q =>
  ha B hB F al s σ H _ _ X e fun r1 s1 F1 al1 H1 v1 x1 X1 rv1 e1 => hl B hB F1 al1 s1 σ H1 _ _ X1 e1 fun lo s2 F2 al2 H2 x2 X2 e2 => hh B hB F2 al2 s2 σ H2 _ _ X2 e2 fun hi s3 F3 al3 H3 x3 X3 e3 => by
    obtain ⟨d, f1, e3⟩ := pk_ok e3
    cases d <;> first | exact e3.elim | skip
    obtain ⟨a, vs, rfl, ea, dv⟩ := X3.peek ((rv1.ext x2).ext x3) f1
    refine ⟨a, vs, rfl, SqT.of ea, by rw [dv.length]; exact e3.1, fun p np => ?_⟩
    obtain ⟨F4, x4, X4, d4⟩ := X3.newT np (dv.cut lo hi)
    exact q (.w (.d (.tup _))) s3 F4 al3 _ _ (((x1.trans x2).trans x3).trans x4) X4 d4 e3.2
def aRevL (a : AE) : AN := fun s A => a s fun r s1 => pk s1 r fun d => match d with
  | .lst ds => A (.new (.lst ds.reverse)) s1
  | _ => False
theorem RN.revL {te : TE} {a : AE} (ha : RE Z te a) : RN Z (tRevL K te) (aRevL a) := fun B hB F al s σ H Q A X e q =>
  ha B hB F al s σ H _ _ X e fun r1 s1 F1 al1 H1 v1 x1 X1 rv1 e1 => by
    obtain ⟨d, f1, e3⟩ := pk_ok e1
    cases d <;> first | exact e3.elim | skip
    obtain ⟨a, vs, rfl, ea, dv⟩ := X1.peek rv1 f1
    exact ⟨a, vs, rfl, SqL.of ea, fun p np => q (.new (.lst _)) s1 F1 al1 _ _ x1 (X1.newL np dv.reverse).1 (X1.newL np dv.reverse).2 e3⟩
/-! ### tests -/
def aT (a : AE) : AT := fun s A => a s fun r s1 => pk s1 r fun d => match d with
  | .bl b => A b s1
  | _ => False
theorem RT.test {te : TE} {a : AE} (ha : RE Z te a) : RT Z (tTest te) (aT a) := fun B hB F al s σ H Q A X h q =>
  ha B hB F al s σ H _ _ X h fun r1 s1 F1 al1 H1 v1 x1 X1 rv1 h1 => by
    obtain ⟨d, e1, h1⟩ := pk_ok h1
    cases d <;> first | exact h1.elim | skip
    exact ⟨_, (X1.peek rv1 e1).blE, q _ s1 F1 al1 H1 x1 X1 h1⟩
theorem RT.b {te : TE} {a : AE} (ha : RE Z te a) : RT Z (tB te) (aT a) := fun B hB F al s σ H Q A X h q =>
  ha B hB F al s σ H _ _ X h fun r1 s1 F1 al1 H1 v1 x1 X1 rv1 h1 => by
    obtain ⟨d, e1, h1⟩ := pk_ok h1
    cases d <;> first | exact h1.elim | skip
    exact ⟨_, (X1.peek rv1 e1).blE, q _ s1 F1 al1 H1 x1 X1 h1⟩
def aYes : AT := fun s A => A true s
theorem RT.yes : RT Z tYes aYes := fun B hB F al s σ H Q A X h q => q _ s F al H Ext.refl X h
def aAnd (t u : AT) : AT := fun s A => t s fun b s1 => if b = true then u s1 A else A false s1
theorem RT.and {t u : TT} {t' u' : AT} (ht : RT Z t t') (hu : RT Z u u') : RT Z (tAnd t u) (aAnd t' u') := fun B hB F al s σ H Q A X h q =>
  ht B hB F al s σ H _ _ X h fun b s1 F1 al1 H1 x1 X1 h1 => by
    cases b with
    | true => exact hu B hB F1 al1 s1 σ H1 _ _ X1 h1 fun b s2 F2 al2 H2 x2 X2 h2 => q b s2 F2 al2 H2 (x1.trans x2) X2 h2
    | false => exact q false s1 F1 al1 H1 x1 X1 h1
def aOr (t u : AT) : AT := fun s A => t s fun b s1 => if b = true then A true s1 else u s1 A
theorem RT.or {t u : TT} {t' u' : AT} (ht : RT Z t t') (hu : RT Z u u') : RT Z (tOr t u) (aOr t' u') := fun B hB F al s σ H Q A X h q =>
  ht B hB F al s σ H _ _ X h fun b s1 F1 al1 H1 x1 X1 h1 => by
    cases b with
    | false => exact hu B hB F1 al1 s1 σ H1 _ _ X1 h1 fun b s2 F2 al2 H2 x2 X2 h2 => q b s2 F2 al2 H2 (x1.trans x2) X2 h2
    | true => exact q true s1 F1 al1 H1 x1 X1 h1
def aNot (t : AT) : AT := fun s A => t s fun b s1 => A (!b) s1
theorem RT.not {t : TT} {t' : AT} (ht : RT Z t t') : RT Z (tNot t) (aNot t') := fun B hB F al s σ H Q A X h q =>
  ht B hB F al s σ H _ _ X h fun b s1 F1 al1 H1 x1 X1 h1 => q _ s1 F1 al1 H1 x1 X1 h1
/-- and, or, not as values -/
def aAndV (a b : AE) : AE := fun s A => a s fun r s1 => pk s1 r fun d => match d with
  | .bl c => if c = true then b s1 A else A (.w (.d (.bl false))) s1
  | _ => False
theorem RE.andV {ta tb : TE} {a b : AE} (ha : RE Z ta a) (hb : RE Z tb b) : RE Z (tAndV ta tb) (aAndV a b) := fun B hB F al s σ H Q A X h q =>
  ha B hB F al s σ H _ _ X h fun r1 s1 F1 al1 H1 v1 x1 X1 rv1 h1 => by
    obtain ⟨d, e1, h1⟩ := pk_ok h1
    cases d <;> first | exact h1.elim | skip
    rename_i c
    refine ⟨c, (X1.peek rv1 e1).blE, ?_⟩
    cases c with
    | true => exact hb B hB F1 al1 s1 σ H1 _ _ X1 h1 fun r s2 F2 al2 H2 v x2 X2 rv h2 => q r s2 F2 al2 H2 v (x1.trans x2) X2 rv h2
    | false => exact q (.w (.d (.bl false))) s1 F1 al1 H1 _ x1 X1 (Dv.bl false) h1
def aOrV (a b : AE) : AE := fun s A => a s fun r s1 => pk s1 r fun d => match d with
  | .bl c => if c = true then A (.w (.d (.bl true))) s1 else b s1 A
  | _ => False
theorem RE.orV {ta tb : TE} {a b : AE} (ha : RE Z ta a) (hb : RE Z tb b) : RE Z (tOrV ta tb) (aOrV a b) := fun B hB F al s σ H Q A X h q =>
  ha B hB F al s σ H _ _ X h fun r1 s1 F1 al1 H1 v1 x1 X1 rv1 h1 => by
    obtain ⟨d, e1, h1⟩ := pk_ok h1
    cases d <;> first | exact h1.elim | skip
    rename_i c
    refine ⟨c, (X1.peek rv1 e1).blE, ?_⟩
    cases c with
    | false => exact hb B hB F1 al1 s1 σ H1 _ _ X1 h1 fun r s2 F2 al2 H2 v x2 X2 rv h2 => q r s2 F2 al2 H2 v (x1.trans x2) X2 rv h2
    | true => exact q (.w (.d (.bl true))) s1 F1 al1 H1 _ x1 X1 (Dv.bl true) h1
def aNotV (a : AE) : AE := fun s A => a s fun r s1 => pk s1 r fun d => match d with
  | .bl c => A (.w (.d (.bl (!c)))) s1
  | _ => False
theorem RE.notV {ta : TE} {a : AE} (ha : RE Z ta a) : RE Z (tNotV ta) (aNotV a) := fun B hB F al s σ H Q A X h q =>
  ha B hB F al s σ H _ _ X h fun r1 s1 F1 al1 H1 v1 x1 X1 rv1 h1 => by
    obtain ⟨d, e1, h1⟩ := pk_ok h1
    cases d <;> first | exact h1.elim | skip
    rename_i c
    exact ⟨c, (X1.peek rv1 e1).blE, q (.w (.d (.bl (!c)))) s1 F1 al1 H1 _ x1 X1 (Dv.bl _) h1⟩
def aIfE (t : AT) (a b : AE) : AE := fun s A => t s fun c s1 => if c = true then a s1 A else b s1 A
theorem RE.ife {t : TT} {ta tb : TE} {t' : AT} {a b : AE} (ht : RT Z t t') (ha : RE Z ta a) (hb : RE Z tb b) : RE Z (tIf t ta tb) (aIfE t' a b) := fun B hB F al s σ H Q A X h q =>
  ht B hB F al s σ H _ _ X h fun c s1 F1 al1 H1 x1 X1 h1 => by
    cases c with
    | true => exact ha B hB F1 al1 s1 σ H1 _ _ X1 h1 fun r s2 F2 al2 H2 v x2 X2 rv h2 => q r s2 F2 al2 H2 v (x1.trans x2) X2 rv h2
    | false => exact hb B hB F1 al1 s1 σ H1 _ _ X1 h1 fun r s2 F2 al2 H2 v x2 X2 rv h2 => q r s2 F2 al2 H2 v (x1.trans x2) X2 rv h2
def aChain (o o' : O2) (a b c : AE) : AE := fun s A => a s fun r s1 => b s1 fun r' s2 => pk s2 r fun d => pk s2 r' fun e => o d e fun z => match z with
  | .bl k => if k = true then c s2 fun r2 s3 => pk s3 r' fun e => pk s3 r2 fun f => o' e f fun z => A (.w (.d z)) s3 else A (.w (.d (.bl false))) s2
  | _ => False
theorem RE.chain {r r' : R2} {o o' : O2} {ta tb tc : TE} {a b c : AE} (hr : OR2 r o) (hr' : OR2 r' o') (ha : RE Z ta a) (hb : RE Z tb b) (hc : RE Z tc c) : RE Z (tChain r r' ta tb tc) (aChain o o' a b c) := by
    intro B hB F al s σ H Q A X h q
    refine ha B hB F al s σ H _ _ X h ?_
    intro r1 s1 F1 al1 H1 v1 x1 X1 rv1 h1
    refine hb B hB F1 al1 s1 σ H1 _ _ X1 h1 ?_
    intro r2 s2 F2 al2 H2 v2 x2 X2 rv2 h2
    obtain ⟨d, e1, h2⟩ := pk_ok h2
    obtain ⟨e, e2, h2⟩ := pk_ok h2
    refine hr F2 H2 v1 v2 d e _ _ X2.sm (X2.peek (rv1.ext x2) e1) (X2.peek rv2 e2) h2 fun z v dz hz => ?_
    cases z <;> first | exact hz.elim | skip
    rename_i k
    refine ⟨k, dz.blE, ?_⟩
    cases k with
    | false => exact q (.w (.d (.bl false))) s2 F2 al2 H2 _ (x1.trans x2) X2 (Dv.bl false) hz
    | true =>
        refine hc B hB F2 al2 s2 σ H2 _ _ X2 hz ?_
        intro r3 s3 F3 al3 H3 v3 x3 X3 rv3 h3
        obtain ⟨e', f1, h3⟩ := pk_ok h3
        obtain ⟨f, f2, h3⟩ := pk_ok h3
        exact hr' F3 H3 v2 v3 e' f Q _ X3.sm (X3.peek (rv2.ext x3) f1) (X3.peek rv3 f2) h3 fun z v dz hz => q (.w (.d z)) s3 F3 al3 H3 v ((x1.trans x2).trans x3) X3 dz hz
/-- is None, is not None -/
def oIsN (neg : Bool) : O2 := fun d e A => match e with
  | .non => A (.bl (if neg then !(match d with | .non => true | _ => false) else match d with | .non => true | _ => false))
  | _ => False
/-! ### arguments -/
def aNil : AA := fun s A => A [] s
theorem RA.nil : RA Z tNil aNil := fun B hB F al s σ H Q A X h q => q [] s F al H [] Ext.refl X .nil h
def aCons (a : AE) (t : AA) : AA := fun s A => a s fun r s1 => toW r s1 fun w s2 => t s2 fun ws s3 => A (w :: ws) s3
theorem RA.cons {te : TE} {tr : TA} {a : AE} {t : AA} (ha : RE Z te a) (ht : RA Z tr t) : RA Z (tCons te tr) (aCons a t) := fun B hB F al s σ H Q A X h q =>
  ha B hB F al s σ H _ _ X h fun r1 s1 F1 al1 H1 v1 x1 X1 rv1 h1 => by
    obtain ⟨F2, al2, w, s2, x2, X2, wv, h2⟩ := toW_ok X1 rv1 h1
    exact ht B hB F2 al2 s2 σ H1 _ _ X2 h2 fun ws s3 F3 al3 H3 vs x3 X3 wvs h3 => q (w :: ws) s3 F3 al3 H3 (v1 :: vs) ((x1.trans x2).trans x3) X3 (.cons (wv.ext x3) wvs) h3
/-- an argument that the callee may change -/
def aConsL (a : AE) (t : AA) : AA := fun s A => a s fun r s1 => toL r s1 fun w s2 => t s2 fun ws s3 => A (w :: ws) s3
theorem RA.consL {te : TE} {tr : TA} {a : AE} {t : AA} (ha : RE Z te a) (ht : RA Z tr t) : RA Z (tCons te tr) (aConsL a t) := fun B hB F al s σ H Q A X h q =>
  ha B hB F al s σ H _ _ X h fun r1 s1 F1 al1 H1 v1 x1 X1 rv1 h1 => by
    obtain ⟨F2, al2, w, s2, x2, X2, wv, h2⟩ := toL_ok X1 rv1 h1
    exact ht B hB F2 al2 s2 σ H1 _ _ X2 h2 fun ws s3 F3 al3 H3 vs x3 X3 wvs h3 => q (w :: ws) s3 F3 al3 H3 (v1 :: vs) ((x1.trans x2).trans x3) X3 (.cons (wv.ext x3) wvs) h3
def wsD : List W → Option (List D)
  | [] => some []
  | .d x :: ws => match wsD ws with
    | some ds => some (x :: ds)
    | none => none
  | _ :: _ => none
theorem WVs.dv {L : Nat} : ∀ {ws : List W} {vs : List V} {ds : List D}, WVs F al L ws vs → wsD ws = some ds → DvAll F vs ds
  | _, _, _, .nil, e => by cases e; exact .nil
  | w :: ws, _, _, .cons h t, e => by
    cases w with
    | d x =>
      unfold wsD at e
      cases z : wsD ws with
      | none => rw [z] at e; cases e
      | some ds => rw [z] at e; cases e; exact .cons h (WVs.dv t z)
    | loc n => cases e
    | raw u φ => cases e
def aTup (t : AA) : AE := fun s A => t s fun ws s1 => ws.length ≤ sizeLine ∧ match wsD ws with
  | some ds => A (.w (.d (.tup ds))) s1
  | none => False
theorem Paired.len {α β : Type} {P : α → β → Prop} : ∀ {xs : List α} {ys : List β}, Paired P xs ys → xs.length = ys.length
  | _, _, .nil => rfl
  | _, _, .cons _ t => by rw [List.length_cons, List.length_cons, Paired.len t]
theorem RE.tup {ta : TA} {t : AA} (ht : RA Z ta t) : RE Z (tTup ta) (aTup t) := fun B hB F al s σ H Q A X h q =>
  ht B hB F al s σ H _ _ X h fun ws s1 F1 al1 H1 vs x1 X1 wvs h1 => by
    refine ⟨by rw [← Paired.len wvs]; exact h1.1, fun p np => ?_⟩
    have h1 := h1.2
    cases z : wsD ws with
    | none => rw [z] at h1; exact h1.elim
    | some ds =>
      rw [z] at h1
      obtain ⟨F2, x2, X2, d2⟩ := X1.newT np (WVs.dv wvs z)
      exact q (.w (.d (.tup ds))) s1 F2 al1 _ _ (x1.trans x2) X2 d2 h1
def lstC (ws : List W) : Cell := match wsD ws with
  | some ds => .lst ds
  | none => .lsw ws
def aLst (t : AA) : AN := fun s A => t s fun ws s1 => ws.length ≤ sizeLine ∧ A (.new (lstC ws)) s1
theorem RN.lst {ta : TA} {t : AA} (ht : RA Z ta t) : RN Z (tLst ta) (aLst t) := fun B hB F al s σ H Q A X h q =>
  ht B hB F al s σ H _ _ X h fun ws s1 F1 al1 H1 vs x1 X1 wvs h1 => by
    refine ⟨by rw [← Paired.len wvs]; exact h1.1, fun p np => ?_⟩
    refine q (.new (lstC ws)) s1 F1 al1 _ _ x1 (X1.new np) ((X1.apart np).nve ⟨X1.sm.free np, _, upd_same, ?_⟩) h1.2
    unfold lstC
    cases z : wsD ws with
    | none => exact .lsw wvs
    | some ds => exact .lst (WVs.dv wvs z)
/-! ### built-ins by their arguments' data -/
abbrev AR := AS → (List R → AS → Prop) → Prop
def RR (Z : EX) (ta : TA) (ar : AR) : Prop := ∀ B, Okx B Z → ∀ F al s σ H (Q : List V → Hp → Prop) (A : List R → AS → Prop), Rel B F al s σ H → ar s A →
  (∀ rs s' F' al' H' vs, Ext F F' al al' s.st.length s'.st.length → Rel B F' al' s' σ H' → Paired (RV F' al' s'.st.length σ) rs vs → A rs s' → Q vs H') → ta σ H Q
def rNil : AR := fun s A => A [] s
theorem RR.nil : RR Z tNil rNil := fun B hB F al s σ H Q A X h q => q [] s F al H [] Ext.refl X .nil h
def rCons (a : AE) (t : AR) : AR := fun s A => a s fun r s1 => t s1 fun rs s2 => A (r :: rs) s2
theorem RR.cons {te : TE} {tr : TA} {a : AE} {t : AR} (ha : RE Z te a) (ht : RR Z tr t) : RR Z (tCons te tr) (rCons a t) := fun B hB F al s σ H Q A X h q =>
  ha B hB F al s σ H _ _ X h fun r1 s1 F1 al1 H1 v1 x1 X1 rv1 h1 => ht B hB F1 al1 s1 σ H1 _ _ X1 h1 fun rs s2 F2 al2 H2 vs x2 X2 rvs h2 =>
    q (r1 :: rs) s2 F2 al2 H2 (v1 :: vs) (x1.trans x2) X2 (.cons (rv1.ext x2) rvs) h2
def pks (s : AS) : List R → Option (List D)
  | [] => some []
  | r :: rs => match peek s r, pks s rs with
    | some d, some ds => some (d :: ds)
    | _, _ => none
theorem Rel.peeks {s : AS} (X : Rel B F al s σ H) : ∀ {rs : List R} {vs : List V} {ds : List D}, Paired (RV F al s.st.length σ) rs vs → pks s rs = some ds → Paired (Tv F H) vs ds
  | _, _, _, .nil, e => by cases e; exact .nil
  | r :: rs, _, _, .cons h t, e => by
    unfold pks at e
    cases z : Zi.peek s r with
    | none => rw [z] at e; cases e
    | some d =>
      cases y : pks s rs with
      | none => rw [z, y] at e; cases e
      | some ds => rw [z, y] at e; cases e; exact .cons (Rel.peek X h z) (Rel.peeks X t y)
def OB (r : List V → Hp → VK → Prop) (o : List D → (D → Prop) → Prop) : Prop := ∀ (F H : Hp) (vs : List V) (ds : List D) (Q : VK) (A : D → Prop), Same F H → Paired (Tv F H) vs ds → o ds A → (∀ z v, Dv F v z → A z → Q v H) → r vs H Q
def aCB (o : List D → (D → Prop) → Prop) (t : AR) : AE := fun s A => t s fun rs s1 => match pks s1 rs with
  | some ds => o ds fun z => A (.w (.d z)) s1
  | none => False
theorem RE.cb {r : List V → Hp → VK → Prop} {o : List D → (D → Prop) → Prop} {ta : TA} {t : AR} (hr : OB r o) (ht : RR Z ta t) : RE Z (tCB r ta) (aCB o t) := fun B hB F al s σ H Q A X h q =>
  ht B hB F al s σ H _ _ X h fun rs s1 F1 al1 H1 vs x1 X1 rvs h1 => by
    cases z : pks s1 rs with
    | none => rw [z] at h1; exact h1.elim
    | some ds =>
      rw [z] at h1
      exact hr F1 H1 vs ds Q _ X1.sm (X1.peeks rvs z) h1 fun z v dz hz => q (.w (.d z)) s1 F1 al1 H1 v x1 X1 dz hz
def OBL (r : List V → Hp → VK → Prop) (o : List D → (List D → Prop) → Prop) : Prop := ∀ (F H : Hp) (vs : List V) (ds : List D) (Q : VK) (A : List D → Prop), Same F H → Paired (Tv F H) vs ds → o ds A → (∀ zs p us, H p = none → DvAll F us zs → A zs → Q (.ref p) (upd H p (.lst us))) → r vs H Q
def aCBL (o : List D → (List D → Prop) → Prop) (t : AR) : AN := fun s A => t s fun rs s1 => match pks s1 rs with
  | some ds => o ds fun zs => A (.new (.lst zs)) s1
  | none => False
theorem RN.cb {r : List V → Hp → VK → Prop} {o : List D → (List D → Prop) → Prop} {ta : TA} {t : AR} (hr : OBL r o) (ht : RR Z ta t) : RN Z (tCB r ta) (aCBL o t) := fun B hB F al s σ H Q A X h q =>
  ht B hB F al s σ H _ _ X h fun rs s1 F1 al1 H1 vs x1 X1 rvs h1 => by
    cases z : pks s1 rs with
    | none => rw [z] at h1; exact h1.elim
    | some ds =>
      rw [z] at h1
      exact hr F1 H1 vs ds Q _ X1.sm (X1.peeks rvs z) h1 fun zs p us n dz hz => q (.new (.lst zs)) s1 F1 al1 _ _ x1 (X1.newL n dz).1 (X1.newL n dz).2 hz
def bLen : List D → (D → Prop) → Prop := fun ds A => match ds with
  | [.lst xs] => A (.int xs.length)
  | [.tup xs] => A (.int xs.length)
  | _ => False
theorem bLen_ok : OB (rLenQ K) bLen := fun F H vs ds Q A sm tv h q => by
  unfold bLen at h
  split at h
  · cases tv with
    | cons t1 t => cases t; obtain ⟨a, us, rfl, ea, dv⟩ := t1; exact ⟨a, us, rfl, .inl (SqL.of ea), by rw [dv.length]; exact q _ _ (.int _) h⟩
  · cases tv with
    | cons t1 t => cases t; obtain ⟨a, us, rfl, ea, dv⟩ := t1; exact ⟨a, us, rfl, .inr (SqT.of ea), by rw [dv.length]; exact q _ _ (.int _) h⟩
  · exact h.elim
def bList : List D → (List D → Prop) → Prop := fun ds A => match ds with
  | [.lst xs] => A xs
  | [.tup xs] => A xs
  | _ => False
theorem bList_ok : OBL (rListOf K) bList := fun F H vs ds Q A sm tv h q => by
  unfold bList at h
  split at h
  · cases tv with
    | cons t1 t => cases t; obtain ⟨a, us, rfl, ea, dv⟩ := t1; exact ⟨a, us, rfl, .inl (SqL.of ea), fun l nl => q _ l us nl dv h⟩
  · cases tv with
    | cons t1 t => cases t; obtain ⟨a, us, rfl, ea, dv⟩ := t1; exact ⟨a, us, rfl, .inr (SqT.of ea), fun l nl => q _ l us nl dv h⟩
  · exact h.elim
/-! ### containers changed in place -/
def getC (s : AS) : R → Option Cell
  | .w (.loc n) => s.st[n]?
  | .w _ => none
  | .sl i => match s.env[i]? with
    | some (.own c) => some c
    | some (.v (.loc n)) => s.st[n]?
    | _ => none
def putC (s : AS) (r : R) (c : Cell) : AS := match r with
  | .w (.loc n) => ⟨s.env, s.st.set n c⟩
  | .w _ => s
  | .sl i => match s.env[i]? with
    | some (.own _) => ⟨s.env.set i (.own c), s.st⟩
    | some (.v (.loc n)) => ⟨s.env, s.st.set n c⟩
    | _ => s
theorem Rel.getC {c : Cell} (X : Rel B F al s σ H) (h : RV F al s.st.length σ r v) (e : getC s r = some c) :
    ∃ a o, v = .ref a ∧ H a = some o ∧ CO F al s.st.length o c ∧ ∀ o' c', CO F al s.st.length o' c' → Rel B F al (putC s r c') σ (upd H a o') ∧ (putC s r c').st.length = s.st.length := by
  have ofS : ∀ n, s.st[n]? = some c → v = .ref (al n) → ∃ a o, v = .ref a ∧ H a = some o ∧ CO F al s.st.length o c ∧ ∀ o' c', CO F al s.st.length o' c' → Rel B F al ⟨s.env, s.st.set n c'⟩ σ (upd H a o') ∧ (s.st.set n c').length = s.st.length := by
    rintro n en rfl
    obtain ⟨_, _, o, ho, hc⟩ := X.cl n c en
    exact ⟨_, o, rfl, ho, hc, fun o' c' z => ⟨X.putS en z, List.length_set⟩⟩
  cases r with
  | w w =>
    cases w with
    | d x => cases e
    | raw u φ => cases e
    | loc n => exact ofS n e h.1
  | sl i =>
    have h : σ[i]? = some (some v) := h
    unfold Zi.getC at e
    unfold putC
    simp only at e ⊢
    cases q : s.env[i]? with
    | none => rw [q] at e; cases e
    | some z =>
      rw [q] at e
      cases z with
      | no => cases e
      | own c1 =>
        cases e
        obtain ⟨a, ha, _, ⟨_, o, ho, hc⟩, _⟩ := X.eo i c q
        rw [h] at ha; cases ha
        exact ⟨a, o, rfl, ho, hc, fun o' c' z => ⟨X.putO q h z, rfl⟩⟩
      | v w =>
        cases w with
        | d x => cases e
        | raw u φ => cases e
        | loc n =>
          obtain ⟨u, hu, hw⟩ := X.ev i _ q
          rw [h] at hu; cases hu
          exact ofS n e hw.1
abbrev OM := Cell → List W → (Cell → W → Prop) → Prop
def MR (rr : V → List V → Hp → VK → Prop) (m : OM) : Prop := ∀ (F : Hp) (al : Nat → Addr) (L : Nat) (H : Hp) (a : Addr) (o : HO) (c : Cell) (ws : List W) (vs : List V) (Q : VK) (A : Cell → W → Prop), H a = some o → CO F al L o c → WVs F al L ws vs → m c ws A →
  (∀ c' w o' v, CO F al L o' c' → WV F al L w v → A c' w → Q v (upd H a o')) → rr (.ref a) vs H Q
def isL (c : Option Cell) : Prop := match c with
  | some (.lst _) => True
  | some (.lsw _) => True
  | _ => False
def aBM (m : OM) (a : AE) (t : AA) : AE := fun s A => a s fun r s1 => isL (getC s1 r) ∧ t s1 fun ws s2 => match getC s2 r with
  | some c => m c ws fun c' w => A (.w w) (putC s2 r c')
  | none => False
def aBM0 (m : OM) (a : AE) : AE := fun s A => a s fun r s1 => isL (getC s1 r) ∧ match getC s1 r with
  | some c => m c [] fun c' w => A (.w w) (putC s1 r c')
  | none => False
theorem tyL (X : Rel B F al s σ H) (h : RV F al s.st.length σ r v) (e : isL (getC s r)) : tyV K "list" v H := by
  cases z : getC s r with
  | none => rw [z] at e; exact e.elim
  | some c =>
    rw [z] at e
    obtain ⟨a, o, rfl, ho, hc, _⟩ := X.getC h z
    cases hc with
    | lst h => exact .inl ⟨rfl, _, SqL.of ho⟩
    | lsw h => exact .inl ⟨rfl, _, SqL.of ho⟩
    | dic h => exact e.elim
    | ins h => exact e.elim
theorem RE.bm {rr : V → List V → Hp → VK → Prop} {m : OM} {to : TE} {ta : TA} {a : AE} {t : AA} (hm : MR rr m) (ha : RE Z to a) (ht : RA Z ta t) : RE Z (tBM K "list" rr to ta) (aBM m a t) := fun B hB F al s σ H Q A X h q =>
  ha B hB F al s σ H _ _ X h fun r1 s1 F1 al1 H1 v1 x1 X1 rv1 h1 => ⟨tyL X1 rv1 h1.1, ht B hB F1 al1 s1 σ H1 _ _ X1 h1.2 fun ws s2 F2 al2 H2 vs x2 X2 wvs h2 => by
    cases z : getC s2 r1 with
    | none => rw [z] at h2; exact h2.elim
    | some c =>
      rw [z] at h2
      obtain ⟨a, o, rfl, ho, hc, put⟩ := X2.getC (rv1.ext x2) z
      refine hm F2 al2 _ H2 a o c ws vs Q _ ho hc wvs h2 fun c' w o' v z1 z2 z3 => ?_
      obtain ⟨X3, e3⟩ := put o' c' z1
      exact q (.w w) _ F2 al2 _ v (by rw [e3]; exact x1.trans x2) X3 (by show WV F2 al2 _ w v; rw [e3]; exact z2) z3⟩
theorem RE.bm0 {rr : V → List V → Hp → VK → Prop} {m : OM} {to : TE} {a : AE} (hm : MR rr m) (ha : RE Z to a) : RE Z (tBM0 K "list" rr to) (aBM0 m a) := fun B hB F al s σ H Q A X h q =>
  ha B hB F al s σ H _ _ X h fun r1 s1 F1 al1 H1 v1 x1 X1 rv1 h1 => ⟨tyL X1 rv1 h1.1, by
    have h2 := h1.2
    cases z : getC s1 r1 with
    | none => rw [z] at h2; exact h2.elim
    | some c =>
      rw [z] at h2
      obtain ⟨a, o, rfl, ho, hc, put⟩ := X1.getC rv1 z
      refine hm F1 al1 _ H1 a o c [] [] Q _ ho hc .nil h2 fun c' w o' v z1 z2 z3 => ?_
      obtain ⟨X3, e3⟩ := put o' c' z1
      exact q (.w w) _ F1 al1 _ v (by rw [e3]; exact x1) X3 (by show WV F1 al1 _ w v; rw [e3]; exact z2) z3⟩
def mAppend : OM := fun c ws A => match c, ws with
  | .lst ds, [.d x] => ds.length < sizeLine ∧ A (.lst (ds ++ [x])) (.d .non)
  | .lst [], [.loc n] => A (.lsw [.loc n]) (.d .non)
  | .lsw us, [w] => us.length < sizeLine ∧ A (.lsw (us ++ [w])) (.d .non)
  | _, _ => False
theorem Paired.app {α β : Type} {P : α → β → Prop} : ∀ {xs xs' : List α} {ys ys' : List β}, Paired P xs ys → Paired P xs' ys' → Paired P (xs ++ xs') (ys ++ ys')
  | _, _, _, _, .nil, s => s
  | _, _, _, _, .cons r t, s => .cons r (Paired.app t s)
theorem mAppend_ok : MR rAppend mAppend := fun F al L H a o c ws vs Q A ho hc wv h q => by
  unfold mAppend at h
  split at h
  · cases wv with | cons h1 t => ?_
    cases t
    cases hc with | lst dv => ?_
    exact ⟨a, _, _, rfl, rfl, ho, by rw [dv.length]; exact h.1, q _ _ _ _ (.lst (dv.append (.cons h1 .nil))) (show WV F al L (.d .non) .non from Dv.non) h.2⟩
  · cases wv with | cons h1 t => ?_
    cases t
    cases hc with | lst dv => ?_
    cases dv
    exact ⟨a, _, _, rfl, rfl, ho, by decide, q _ _ _ _ (.lsw (.cons h1 .nil)) (show WV F al L (.d .non) .non from Dv.non) h⟩
  · cases wv with | cons h1 t => ?_
    cases t
    cases hc with | lsw dv => ?_
    exact ⟨a, _, _, rfl, rfl, ho, by rw [← Paired.len dv]; exact h.1, q _ _ _ _ (.lsw (Paired.app dv (.cons h1 .nil))) (show WV F al L (.d .non) .non from Dv.non) h.2⟩
  · exact h.elim
def mPop : OM := fun c ws A => match c, ws with
  | .lst ds, [] => match ds[ds.length - 1]? with
    | some x => A (.lst ds.dropLast) (.d x)
    | none => False
  | _, _ => False
theorem DvAll.dropLast {vs : List V} {ds : List D} (h : DvAll F vs ds) : DvAll F vs.dropLast ds.dropLast := by
  rw [List.dropLast_eq_take, List.dropLast_eq_take, h.length]; exact h.take _
theorem mPop_ok : MR rPop mPop := fun F al L H a o c ws vs Q A ho hc wv h q => by
  unfold mPop at h
  split at h
  · cases wv
    cases hc with | lst dv => ?_
    split at h
    · rename_i x e
      rw [← dv.length] at e
      obtain ⟨v, h1, h2⟩ := dv.get e
      exact ⟨a, _, v, rfl, rfl, ho, h1, q _ (.d x) _ _ (.lst dv.dropLast) h2 h⟩
    · exact h.elim
  · exact h.elim
def mPopAt : OM := fun c ws A => match c, ws with
  | .lst ds, [.d (.int i)] => -(2 ^ 63) ≤ i ∧ i < 2 ^ 63 ∧ match seqIndex? i ds.length with
    | some k => match ds[k]? with
      | some x => A (.lst (ds.eraseIdx k)) (.d x)
      | none => False
    | none => False
  | _, _ => False
theorem mPopAt_ok : MR rPopAt mPopAt := fun F al L H a o c ws vs Q A ho hc wv h q => by
  unfold mPopAt at h
  split at h
  · cases wv with | cons h1 t => ?_
    cases t
    cases (show Dv F _ (.int _) from h1).intE
    cases hc with | lst dv => ?_
    obtain ⟨b1, b2, h⟩ := h
    split at h
    · rename_i k ek
      split at h
      · rename_i x e
        obtain ⟨v, h1, h2⟩ := dv.get e
        exact ⟨a, _, _, k, v, rfl, rfl, ho, b1, b2, by rw [dv.length]; exact ek, h1, q _ (.d x) _ _ (.lst (dv.eraseIdx k)) h2 h⟩
      · exact h.elim
    · exact h.elim
  · exact h.elim
end
end Zi

set_option Elab.async false
set_option linter.all false
set_option maxRecDepth 100000
set_option maxHeartbeats 1000000
/-! Zl: calls, statements, loops, comprehensions. -/
namespace Zi
open PySem PySem.Spec PyProof.Rows L2 Ly
/-! ### a base anew, an object guarded -/
def Bs.re (B : Bs) (F : Hp) (al : Nat → Addr) (L : Nat) : Bs := ⟨B.G, F, al, L⟩
def Bs.gd (B : Bs) (p : Addr) (o : HO) : Bs := ⟨upd B.G p o, B.F, B.al, B.L⟩
section
variable {Z : EX} {K : PySem.W.Frag} {B : Bs} {F F' F1 H H' : Hp} {al al' al1 : Nat → Addr} {s s' : AS} {σ σ' : L2.St} {v : V} {x : D} {r : R} {cc : Cell} {o : HO} {a p : Addr} {i n L L' : Nat} {ww : W} {st st' : List Cell}
theorem RelS.re (X : RelS B F al st H) : RelS (B.re F al st.length) F al st H := { X with ex := Ext.refl }
theorem Rel.re (X : Rel B F al s σ H) : Rel (B.re F al s.st.length) F al s σ H := { X with toRelS := X.toRelS.re }
theorem RelS.un (E : Ext B.F F B.al al B.L L) (X : RelS (B.re F al L) F' al' st H) : RelS B F' al' st H := { X with ex := E.trans X.ex }
theorem Rel.un (E : Ext B.F F B.al al B.L L) (X : Rel (B.re F al L) F' al' s σ H) : Rel B F' al' s σ H := { X with toRelS := X.toRelS.un E }
theorem Okx.re (h : Okx B Z) (E : Ext B.F F B.al al B.L L) : Okx (B.re F al L) Z := fun C fs st' e F' al' H' d vs X => h C fs st' e F' al' H' d vs (X.un E)
theorem RelS.guard (X : RelS B F al st H) (g : B.G p = none) (f : F p = none) (a : ∀ n, n < st.length → al n ≠ p) (h : H p = some o) : RelS (B.gd p o) F al st H where
  sm := X.sm
  sg := fun b u e => by
    by_cases q : b = p
    · subst q
      have e : upd B.G b o b = some u := e
      rw [upd_same] at e; rw [← e]; exact h
    · have e : upd B.G p o b = some u := e
      rw [upd_ne q] at e; exact X.sg b u e
  fg := fun b u e => by
    by_cases q : b = p
    · subst q; exact f
    · have e : upd B.G p o b = some u := e
      rw [upd_ne q] at e; exact X.fg b u e
  ex := X.ex
  ss := X.ss
  cl := fun n c e => by
    obtain ⟨g', h'⟩ := X.cl n c e
    refine ⟨?_, h'⟩
    show upd B.G p o (al n) = none
    rw [upd_ne (a n (List.getElem?_eq_some_iff.mp e).1)]; exact g'
theorem Rel.guard (X : Rel B F al s σ H) (A : Apart B F al s σ p) (h : H p = some o) : Rel (B.gd p o) F al s σ H where
  toRelS := X.toRelS.guard A.g A.f A.a h
  le := X.le
  ev := X.ev
  eo := fun i c e => by
    obtain ⟨a, ha, g, hc, h1, h2⟩ := X.eo i c e
    refine ⟨a, ha, ?_, hc, h1, h2⟩
    show upd B.G p o a = none
    rw [upd_ne (fun z => A.e i c e (by rw [← z]; exact ha))]; exact g
theorem RelS.unguard (g : B.G p = none) (X : RelS (B.gd p o) F al st H) : RelS B F al st H ∧ H p = some o ∧ F p = none ∧ ∀ n, n < st.length → al n ≠ p := by
  have gp : (B.gd p o).G p = some o := upd_same
  have sub : ∀ b u, B.G b = some u → (B.gd p o).G b = some u := fun b u e => by
    show upd B.G p o b = some u
    rw [upd_ne (ne_of_none e g)]; exact e
  have an : ∀ n, n < st.length → al n ≠ p := fun n hn z => by
    have := (X.cl n _ (List.getElem?_eq_getElem hn)).1
    rw [z, gp] at this; cases this
  refine ⟨⟨X.sm, fun b u e => X.sg b u (sub b u e), fun b u e => X.fg b u (sub b u e), X.ex, X.ss, fun n c e => ?_⟩, X.sg p o gp, X.fg p o gp, an⟩
  obtain ⟨g', h'⟩ := X.cl n c e
  refine ⟨?_, h'⟩
  have g' : upd B.G p o (al n) = none := g'
  rw [upd_ne (an n (List.getElem?_eq_some_iff.mp e).1)] at g'
  exact g'
theorem Rel.unguard (g : B.G p = none) (X : Rel (B.gd p o) F al s σ H) : Rel B F al s σ H ∧ H p = some o ∧ Apart B F al s σ p := by
  obtain ⟨X', h, f, a⟩ := X.toRelS.unguard g
  have ap : ∀ (i : Nat) (c : Cell) (b : Addr), s.env[i]? = some (Sl.own c) → (B.gd p o).G b = none → σ[i]? = some (some (V.ref b)) → b ≠ p := fun i c b e gb _ z => by
    subst z
    have gb : upd B.G b o b = none := gb
    rw [upd_same] at gb; cases gb
  refine ⟨⟨X', X.le, X.ev, fun i c e => ?_⟩, h, g, f, a, fun i c e hp => ?_⟩
  · obtain ⟨a, ha, gb, hc, h1, h2⟩ := X.eo i c e
    refine ⟨a, ha, ?_, hc, h1, h2⟩
    have gb' : upd B.G p o a = none := gb
    rw [upd_ne (ap i c a e gb ha)] at gb'; exact gb'
  · obtain ⟨a, ha, gb, _⟩ := X.eo i c e
    exact ap i c a e gb ha (by rw [hp] at ha; cases ha; rfl)
theorem Okx.gd (h : Okx B Z) (g : B.G p = none) : Okx (B.gd p o) Z := fun C fs st' e F' al' H' d vs X => h C fs st' e F' al' H' d vs (RelS.unguard g X).1
/-! ### calls -/
abbrev ASp := List W → List Cell → (N → List Cell → Prop) → XA → Prop
def SpA (m : Nat) (asp : ASp) : Sp := fun vs H Q E => ∃ (B : Bs) (ws : List W) (st : List Cell) (A : N → List Cell → Prop) (Ea : XA), RelS B B.F B.al st H ∧ B.L = st.length ∧ WVs B.F B.al st.length ws vs ∧ ws.length = m ∧ asp ws st A Ea ∧
  (∀ n st' F' al' H' v, A n st' → RelS B F' al' st' H' → NV B F' al' st' H' n v → Q v H') ∧ ∀ C fs st', Ea C fs st' → EA B E C fs st'
/-- k stays as it is in a simplification: a thing of its type hangs on it -/
structure Tag {α : Type} (k : α) where
def callG (asp : ASp) (ws : List W) (st : List Cell) (k : N → List Cell → Prop) (ea : XA) (_ : Tag k) : Prop := asp ws st k ea
def aCall (ea : XA) (m : Nat) (asp : ASp) (t : AA) : AN := fun s A => t s fun ws s1 => ws.length = m ∧ callG asp ws s1.st (fun n st' => A n ⟨s1.env, st'⟩) ea ⟨⟩
open Classical in
theorem Rel.frame (X : Rel B F al s σ H) : ∃ G' : Hp, RelS ⟨G', F, al, s.st.length⟩ F al s.st H ∧ ∀ F' al' st' H', RelS ⟨G', F, al, s.st.length⟩ F' al' st' H' →
    Ext F F' al al' s.st.length st'.length ∧ Rel B F' al' ⟨s.env, st'⟩ σ H' ∧ ∀ n v, NV ⟨G', F, al, s.st.length⟩ F' al' st' H' n v → NVe B F' al' ⟨s.env, st'⟩ σ H' n v := by
  let G' : Hp := fun b => if F b = none ∧ ∀ n, n < s.st.length → al n ≠ b then H b else none
  have gin : ∀ b u, F b = none → (∀ n, n < s.st.length → al n ≠ b) → H b = some u → G' b = some u := fun b u f a e => by
    show (if F b = none ∧ ∀ n, n < s.st.length → al n ≠ b then H b else none) = some u
    rw [if_pos ⟨f, a⟩]; exact e
  have gout : ∀ b u, G' b = some u → F b = none ∧ (∀ n, n < s.st.length → al n ≠ b) ∧ H b = some u := fun b u e => by
    have e : (if F b = none ∧ ∀ n, n < s.st.length → al n ≠ b then H b else none) = some u := e
    split at e
    · rename_i q; exact ⟨q.1, q.2, e⟩
    · cases e
  have sub : ∀ b u, B.G b = some u → G' b = some u := fun b u e => gin b u (X.fg b u e) (fun n hn z => by
    have := (X.cl n _ (List.getElem?_eq_getElem hn)).1
    rw [z, e] at this; cases this) (X.sg b u e)
  refine ⟨G', ⟨X.sm, fun b u e => (gout b u e).2.2, fun b u e => (gout b u e).1, Ext.refl, X.ss, fun n c e => ⟨?_, (X.cl n c e).2⟩⟩, fun F' al' st' H' Y => ?_⟩
  · cases q : G' (al n) with
    | none => exact q
    | some u => exact ((gout _ _ q).2.1 n (List.getElem?_eq_some_iff.mp e).1 rfl).elim
  · have ex : Ext F F' al al' s.st.length st'.length := Y.ex
    have gn : ∀ b, G' b = none → B.G b = none := fun b e => by
      cases q : B.G b with
      | none => rfl
      | some u => rw [sub b u q] at e; cases e
    have own : ∀ (i : Nat) (c : Cell) (a : Addr), s.env[i]? = some (Sl.own c) → σ[i]? = some (some (V.ref a)) → ∃ o, H a = some o ∧ G' a = some o := fun i c a e ha => by
      obtain ⟨a', ha', _, ⟨f, o, ho, _⟩, h1, _⟩ := X.eo i c e
      rw [ha] at ha'; cases ha'
      exact ⟨o, ho, gin _ _ f h1 ho⟩
    have nw : ∀ n, n < st'.length → G' (al' n) = none := fun n hn => (Y.cl n _ (List.getElem?_eq_getElem hn)).1
    refine ⟨ex, ⟨⟨Y.sm, fun b u e => Y.sg b u (sub b u e), fun b u e => Y.fg b u (sub b u e), X.ex.trans ex, Y.ss, fun n c e => ⟨gn _ (Y.cl n c e).1, (Y.cl n c e).2⟩⟩, X.le, fun i w e => ?_, fun i c e => ?_⟩, fun n v nv => ⟨?_, fun c en i c' e => ?_⟩⟩
    · obtain ⟨v, h1, h2⟩ := X.ev i w e
      exact ⟨v, h1, h2.ext ex⟩
    · obtain ⟨a, ha, g, ⟨f, o, ho, hc⟩, h1, h2⟩ := X.eo i c e
      obtain ⟨o', ho', go⟩ := own i c a e ha
      rw [ho] at ho'; cases ho'
      refine ⟨a, ha, g, ⟨Y.fg a o go, o, Y.sg a o go, hc.ext ex⟩, fun n hn z => ?_, h2⟩
      have := nw n hn
      rw [z, go] at this; cases this
    · cases n with
      | w w => exact nv
      | new c =>
        obtain ⟨p, rfl, g, C, a⟩ := nv
        exact ⟨p, rfl, gn _ g, C, a⟩
    · subst en
      obtain ⟨p, rfl, g, C, a⟩ := nv
      intro hp
      obtain ⟨o', ho', go⟩ := own i c' p e hp
      have g : G' p = none := g
      rw [go] at g; cases g
theorem RN.call {m : Nat} {asp : ASp} {ta : TA} {t : AA} (ht : RA Z ta t) : RN Z (tCall (SpA m asp) [] Z.ec ta) (aCall Z.ea m asp t) := fun B hB F al s σ H Q A X h q =>
  ht B hB F al s σ H _ _ X h fun ws s1 F1 al1 H1 vs x1 X1 wvs h1 => by
    obtain ⟨G', Y, k⟩ := X1.frame
    refine ⟨⟨G', F1, al1, s1.st.length⟩, ws, s1.st, _, Z.ea, Y, rfl, by rw [List.append_nil]; exact wvs, h1.1, h1.2, fun n st' F' al' H' v z Y' nv => ?_, fun C fs st' z F' al' H' d vs' Y' => ?_⟩
    · obtain ⟨ex, X2, k2⟩ := k F' al' st' H' Y'
      exact q n ⟨s1.env, st'⟩ F' al' H' v (x1.trans ex) X2 (k2 n v nv) z
    · obtain ⟨ex, X2, k2⟩ := k F' al' st' H' Y'
      exact hB C fs st' z F' al' H' d vs' X2.toRelS
/-! ### statements -/
def aNext : ASt := fun D s => D.nx s
theorem RS.next : RS Z tNext aNext := fun B hB D A rd F al s σ H X h => rd.nx F al s σ H X h
def aSeq (t u : ASt) : ASt := fun D s => t { D with nx := u D } s
theorem RS.seq {t u : TS} {t' u' : ASt} (ht : RS Z t t') (hu : RS Z u u') : RS Z (tSeq t u) (aSeq t' u') := fun B hB D A rd F al s σ H X h =>
  ht B hB { D with nx := u D } { A with nx := u' A } ⟨fun F al s σ H X h => hu B hB D A rd F al s σ H X h, rd.rt, rd.bk, rd.ct⟩ F al s σ H X h
def put (i : Nat) (n : N) (s : AS) : AS := match n with
  | .w w => ⟨s.env.set i (.v w), s.st⟩
  | .new c => ⟨s.env.set i (.own c), s.st⟩
theorem Rel.put {n : N} (X : Rel B F al s σ H) (h : NVe B F al s σ H n v) : Rel B F al (put i n s) (σ.set i (some v)) H := by
  cases n with
  | w w => exact X.setV i h.1
  | new c =>
    obtain ⟨p, rfl, A, C⟩ := h.apart
    exact X.setN i A C
def aAsg (i : Nat) (a : AN) : ASt := fun D s => a s fun n s1 => D.nx (Zi.put i n s1)
theorem RS.asg {te : TE} {a : AN} {i : Nat} (ha : RN Z te a) : RS Z (tAsg te (gName i)) (aAsg i a) := fun B hB D A rd F al s σ H X h =>
  ha B hB F al s σ H _ _ X h fun n s1 F1 al1 H1 v x1 X1 nv h1 => rd.nx F1 al1 _ _ H1 (X1.put nv) h1
def aIf (c : AT) (t u : ASt) : ASt := fun D s => c s fun b s1 => if b = true then t D s1 else u D s1
theorem RS.ifs {c : TT} {t u : TS} {c' : AT} {t' u' : ASt} (hc : RT Z c c') (ht : RS Z t t') (hu : RS Z u u') : RS Z (tIfS c t u) (aIf c' t' u') := fun B hB D A rd F al s σ H X h =>
  hc B hB F al s σ H _ _ X h fun b s1 F1 al1 H1 x1 X1 h1 => by
    cases b with
    | true => exact ht B hB D A rd F1 al1 s1 σ H1 X1 h1
    | false => exact hu B hB D A rd F1 al1 s1 σ H1 X1 h1
def aDrop (a : AE) : ASt := fun D s => a s fun _ s1 => D.nx s1
theorem RS.drop {te : TE} {a : AE} (ha : RE Z te a) : RS Z (tDrop te) (aDrop a) := fun B hB D A rd F al s σ H X h =>
  ha B hB F al s σ H _ _ X h fun r s1 F1 al1 H1 v x1 X1 rv h1 => rd.nx F1 al1 s1 σ H1 X1 h1
/-- a call for its effect -/
def aDropN (a : AN) : ASt := fun D s => a s fun _ s1 => D.nx s1
theorem RS.dropN {te : TE} {a : AN} (ha : RN Z te a) : RS Z (tDrop te) (aDropN a) := fun B hB D A rd F al s σ H X h =>
  ha B hB F al s σ H _ _ X h fun r s1 F1 al1 H1 v x1 X1 rv h1 => rd.nx F1 al1 s1 σ H1 X1 h1
def aRet (a : AN) : ASt := fun D s => a s fun n s1 => D.rt n s1.st
theorem RS.ret {te : TE} {a : AN} (ha : RN Z te a) : RS Z (tRet te) (aRet a) := fun B hB D A rd F al s σ H X h =>
  ha B hB F al s σ H _ _ X h fun n s1 F1 al1 H1 v x1 X1 nv h1 => rd.rt F1 al1 s1.st H1 n v X1.toRelS nv.1 h1
def aRetN : ASt := fun D s => D.rt (.w (.d .non)) s.st
theorem RS.retN : RS Z tRetN aRetN := fun B hB D A rd F al s σ H X h => rd.rt F al s.st H (.w (.d .non)) _ X.toRelS Dv.non h
def aBreak : ASt := fun D s => D.bk s
theorem RS.brk : RS Z tBreak aBreak := fun B hB D A rd F al s σ H X h => rd.bk F al s σ H X h
def aCont : ASt := fun D s => D.ct s
theorem RS.cont : RS Z tCont aCont := fun B hB D A rd F al s σ H X h => rd.ct F al s σ H X h
def aAug (i : Nat) (f : Int → Int → Int) (b : AE) : ASt := fun D s => aVar i s fun r s0 => b s0 fun r' s1 => pk s1 r fun d => pk s1 r' fun e => match d, e with
  | .int j, .int k => D.nx ⟨s1.env.set i (.v (.d (.int (f j k)))), s1.st⟩
  | _, _ => False
theorem RS.aug {i : Nat} {f : Int → Int → Int} {te : TE} {b : AE} (hb : RE Z te b) : RS Z (tAug i te (ipI f)) (aAug i f b) := fun B hB D A rd F al s σ H X h => by
  refine RE.var (i := i) (Z := Z) B hB F al s σ H (fun x H => te σ H fun y H1 => ipI f x y H1 fun z H2 => D.nx (σ.set i (some z)) H2) _ X h ?_
  intro r s0 F0 al0 H0 v0 x0 X0 rv0 h0
  refine hb B hB F0 al0 s0 σ H0 _ _ X0 h0 ?_
  intro r1 s1 F1 al1 H1 v1 x1 X1 rv1 h1
  obtain ⟨d, e1, h1⟩ := pk_ok h1
  obtain ⟨e, e2, h1⟩ := pk_ok h1
  cases d <;> cases e <;> first | exact h1.elim | skip
  exact ⟨_, _, (X1.peek (rv0.ext x1) e1).intE, (X1.peek rv1 e2).intE, rd.nx F1 al1 _ _ H1 (X1.setV i (w := .d (.int _)) (Dv.int _)) h1⟩
/-- xs[i] = e -/
def aSetIx (e a b : AE) : ASt := fun D s => e s fun r s1 => toW r s1 fun w s2 => a s2 fun ra s3 => b s3 fun rb s4 => pk s4 rb fun d => match d, getC s4 ra, w with
  | .int k, some (.lst ds), .d x => match ixN ds.length k with
    | some j => D.nx (putC s4 ra (.lst (ds.set j x)))
    | none => False
  | _, _, _ => False
theorem RS.setIx {te to ti : TE} {e a b : AE} (he : RE Z te e) (ha : RE Z to a) (hb : RE Z ti b) : RS Z (tAsg te (gSub to ti rSetL)) (aSetIx e a b) := fun B hB D A rd F al s σ H X h => by
  refine he B hB F al s σ H _ _ X h ?_
  intro r s1 F1 al1 H1 v1 x1 X1 rv1 h1
  obtain ⟨F2, al2, w, s2, x2, X2, wv, h2⟩ := toW_ok X1 rv1 h1
  refine ha B hB F2 al2 s2 σ H1 _ _ X2 h2 ?_
  intro ra s3 F3 al3 H3 v3 x3 X3 rv3 h3
  refine hb B hB F3 al3 s3 σ H3 _ _ X3 h3 ?_
  intro rb s4 F4 al4 H4 v4 x4 X4 rv4 h4
  obtain ⟨d, e1, h5⟩ := pk_ok h4
  clear h4
  have tv := X4.peek rv4 e1
  have wv4 := (wv.ext x3).ext x4
  cases d <;> first | exact h5.elim | skip
  rename_i k
  cases z : getC s4 ra with
  | none => rw [z] at h5; exact h5.elim
  | some c =>
    rw [z] at h5
    cases c <;> first | exact h5.elim | skip
    rename_i ds
    cases w <;> first | exact h5.elim | skip
    rename_i x
    simp only at h5
    obtain ⟨p, o, rfl, ho, hc, pt⟩ := X4.getC (rv3.ext x4) z
    cases hc with | lst dv => ?_
    cases y : ixN ds.length k with
    | none => rw [y] at h5; exact h5.elim
    | some j =>
      rw [y] at h5
      obtain ⟨X5, _⟩ := pt _ _ (.lst (dv.set j (show Dv F4 _ x from wv4)))
      exact ⟨p, _, k, j, rfl, tv.intE, ho, by rw [dv.length]; exact y, rd.nx F4 al4 _ _ _ X5 h5⟩
/-! ### targets -/
inductive Tgt where | nm (i : Nat) | tp (ts : List Tgt)
mutual
def bindT : Tgt → D → List Sl → Option (List Sl)
  | .nm i, x, env => some (env.set i (.v (.d x)))
  | .tp ts, .tup ds, env => bindTs ts ds env
  | .tp _, _, _ => none
def bindTs : List Tgt → List D → List Sl → Option (List Sl)
  | [], [], env => some env
  | t :: ts, d :: ds, env => match bindT t d env with
    | some env' => bindTs ts ds env'
    | none => none
  | _, _, _ => none
end
mutual
def slots : Tgt → List Nat
  | .nm i => [i]
  | .tp ts => slotss ts
def slotss : List Tgt → List Nat
  | [] => []
  | t :: ts => slots t ++ slotss ts
end
def RG (g : TG) (t : Tgt) : Prop := ∀ (B : Bs) F al s σ H (Q : L2.St → Hp → Prop) v x env', Rel B F al s σ H → Dv F v x → bindT t x s.env = some env' →
  (∀ σ', Rel B F al ⟨env', s.st⟩ σ' H → (∀ ws, (∀ j ∈ slots t, j ∈ ws) → wipe σ' ws = wipe σ ws) → Q σ' H) → g v σ H Q
def RGs (g : TGs) (t : List Tgt) : Prop := ∀ (B : Bs) F al s σ H (Q : L2.St → Hp → Prop) vs xs env', Rel B F al s σ H → DvAll F vs xs → bindTs t xs s.env = some env' →
  (∀ σ', Rel B F al ⟨env', s.st⟩ σ' H → (∀ ws, (∀ j ∈ slotss t, j ∈ ws) → wipe σ' ws = wipe σ ws) → Q σ' H) → g vs σ H Q
theorem wipe_set {σ : L2.St} {i : Nat} {x : Option V} : ∀ {ws : List Nat}, i ∈ ws → wipe (σ.set i x) ws = wipe σ ws := by
  intro ws hi
  refine List.ext_getElem? fun j => ?_
  have W : ∀ τ : L2.St, ∀ ws : List Nat, (wipe τ ws)[j]? = if j ∈ ws then (if j < τ.length then some none else none) else τ[j]? := by
    intro τ ws
    by_cases hj : j ∈ ws
    · rw [if_pos hj]
      split
      · rename_i hl
        have hl' : j < (wipe τ ws).length := by rw [wipe_length]; exact hl
        cases q : (wipe τ ws)[j]? with
        | none => rw [List.getElem?_eq_none_iff] at q; omega
        | some y =>
          cases y with
          | none => rfl
          | some z => exact ((wipe_some q).2 hj).elim
      · rename_i hl
        rw [List.getElem?_eq_none_iff, wipe_length]; omega
    · rw [if_neg hj, wipe_out hj]
  rw [W, W]
  by_cases hj : j ∈ ws
  · rw [if_pos hj, if_pos hj, List.length_set]
  · rw [if_neg hj, if_neg hj, List.getElem?_set_ne (fun z : i = j => hj (z ▸ hi))]
theorem RG.nm {i : Nat} : RG (gName i) (.nm i) := fun B F al s σ H Q v x env' X d e q => by
  unfold bindT at e
  cases e
  exact q _ (X.setV i (w := .d x) d) fun ws h => wipe_set (h i (by simp [slots]))
theorem RGs.nil : RGs gNil [] := fun B F al s σ H Q vs xs env' X d e q => by
  cases xs with
  | nil => unfold bindTs at e; cases e; cases d; exact ⟨rfl, q σ X fun _ _ => rfl⟩
  | cons y ys => unfold bindTs at e; cases e
theorem RGs.cons {g : TG} {gs : TGs} {t : Tgt} {ts : List Tgt} (h : RG g t) (hs : RGs gs ts) : RGs (gCons g gs) (t :: ts) := fun B F al s σ H Q vs xs env' X d e q => by
  cases xs with
  | nil => unfold bindTs at e; cases e
  | cons y ys =>
    unfold bindTs at e
    cases d with | cons d1 d2 => ?_
    cases z : bindT t y s.env with
    | none => rw [z] at e; cases e
    | some env1 =>
      rw [z] at e
      refine ⟨_, _, rfl, h B F al s σ H _ _ y env1 X d1 z fun σ1 X1 w1 => ?_⟩
      refine hs B F al _ σ1 H _ _ ys env' X1 d2 e fun σ2 X2 w2 => q σ2 X2 fun ws hw => ?_
      rw [w2 ws fun j hj => hw j (by simp [slotss, hj]), w1 ws fun j hj => hw j (by simp [slotss, hj])]
theorem bindTs_len : ∀ {ts : List Tgt} {ds : List D} {env env' : List Sl}, bindTs ts ds env = some env' → ds.length = ts.length
  | [], [], _, _, _ => rfl
  | [], _ :: _, _, _, e => by unfold bindTs at e; cases e
  | _ :: _, [], _, _, e => by unfold bindTs at e; cases e
  | t :: ts, d :: ds, env, env', e => by
    unfold bindTs at e
    cases z : bindT t d env with
    | none => rw [z] at e; cases e
    | some env1 => rw [z] at e; rw [List.length_cons, List.length_cons, bindTs_len e]
theorem RG.tp {gs : TGs} {ts : List Tgt} {n : Nat} (h : RGs gs ts) (hn : n = ts.length) : RG (gTup K n gs) (.tp ts) := fun B F al s σ H Q v x env' X d e q => by
  cases x <;> first | (unfold bindT at e; cases e; done) | skip
  rename_i ds
  unfold bindT at e
  obtain ⟨a, xs, rfl, ea, dv⟩ := d.tupE
  exact ⟨a, xs, rfl, SqT.of (X.sm _ _ ea), by rw [dv.length, hn]; exact bindTs_len e, h B F al s σ H Q xs ds env' X dv e fun σ' X' w => q σ' X' fun ws hw => w ws (by simpa [slots] using hw)⟩
def aAsgT (t : Tgt) (a : AE) : ASt := fun D s => a s fun r s1 => toW r s1 fun w s2 => match w with
  | .d x => match bindT t x s2.env with
    | some env' => D.nx ⟨env', s2.st⟩
    | none => False
  | _ => False
theorem RS.asgT {te : TE} {a : AE} {g : TG} {t : Tgt} (ha : RE Z te a) (hg : RG g t) : RS Z (tAsg te g) (aAsgT t a) := fun B hB D A rd F al s σ H X h => by
  refine ha B hB F al s σ H _ _ X h ?_
  intro r s1 F1 al1 H1 v1 x1 X1 rv1 h1
  obtain ⟨F2, al2, w, s2, x2, X2, wv, h2⟩ := toW_ok X1 rv1 h1
  cases w <;> first | exact h2.elim | skip
  rename_i x
  simp only at h2
  cases z : bindT t x s2.env with
  | none => rw [z] at h2; exact h2.elim
  | some env' =>
    rw [z] at h2
    exact hg B F2 al2 s2 σ H1 _ _ x env' X2 wv z fun σ' X3 _ => rd.nx F2 al2 _ σ' H1 X3 h2
end
end Zi

set_option Elab.async false
set_option linter.all false
set_option maxRecDepth 100000
set_option maxHeartbeats 1000000
/-! Zm: what is walked, loops, comprehensions, dicts, defs. -/
namespace Zi
open PySem PySem.Spec PyProof.Rows L2 Ly
section
variable {Z : EX} {K : PySem.W.Frag} {B : Bs} {F F' F1 H H' : Hp} {al al' al1 : Nat → Addr} {s s' : AS} {σ σ' : L2.St} {v : V} {x : D} {r : R} {cc : Cell} {o : HO} {a p : Addr} {i n L L' : Nat} {ww : W} {st st' : List Cell}
/-! ### what is walked -/
abbrev AI := AS → (List D → AS → Prop) → Prop
def YOk (F H1 : Hp) (ds : List D) (i : Nat) (x : V) (H2 : Hp) : Prop :=
  (H2 = H1 ∧ ∃ d, ds[i]? = some d ∧ Dv F x d) ∨ ∃ T vs es, x = .ref T ∧ H1 T = none ∧ H2 = upd H1 T (.tup vs) ∧ ds[i]? = some (.tup es) ∧ DvAll F vs es
def RI (Z : EX) (ti : TI) (ai : AI) : Prop := ∀ B, Okx B Z → ∀ F al s σ H (R : It → Hp → Prop) (A : List D → AS → Prop), Rel B F al s σ H → ai s A →
  (∀ ds s' F' al' H' J G Y, Ext F F' al al' s.st.length s'.st.length → Rel B F' al' s' σ H' → Walk J ds.length G Y → (∀ H2, Same F' H2 → G H2) →
    (∀ i H1 x H2, i < ds.length → Same F' H1 → Y i H1 x H2 → YOk F' H1 ds i x H2) → A ds s' → R J H') → ti σ H R
def aIL (a : AE) : AI := fun s A => a s fun r s1 => toW r s1 fun w s2 => match w with
  | .d (.lst ds) => A ds s2
  | _ => False
theorem RI.list {te : TE} {a : AE} (ha : RE Z te a) : RI Z (iList K te) (aIL a) := fun B hB F al s σ H R A X h q => by
  refine ha B hB F al s σ H _ _ X h ?_
  intro r s1 F1 al1 H1 v1 x1 X1 rv1 h1
  obtain ⟨F2, al2, w, s2, x2, X2, wv, h2⟩ := toW_ok X1 rv1 h1
  cases w with
  | loc n => exact h2.elim
  | raw u φ => exact h2.elim
  | d x =>
    cases x <;> first | exact h2.elim | skip
    rename_i ds
    obtain ⟨a, xs, rfl, ea, dv⟩ := (show Dv F2 _ (.lst ds) from wv).lstE
    refine ⟨a, rfl, ⟨xs, SqL.of (X2.sm _ _ ea)⟩, q ds s2 F2 al2 H1 _ _ _ (x1.trans x2) X2 (dv.length ▸ walk_list) (fun H2 sm => SqL.of (sm _ _ ea)) (fun i H1 x H2 hi sm y => ?_) h2⟩
    obtain ⟨e1, e2⟩ := y
    exact .inl ⟨e1, dv.getV e2⟩
def aIT (a : AE) : AI := fun s A => a s fun r s1 => toW r s1 fun w s2 => match w with
  | .d (.tup ds) => A ds s2
  | _ => False
theorem RI.tup {te : TE} {a : AE} (ha : RE Z te a) : RI Z (iTup K te) (aIT a) := fun B hB F al s σ H R A X h q => by
  refine ha B hB F al s σ H _ _ X h ?_
  intro r s1 F1 al1 H1 v1 x1 X1 rv1 h1
  obtain ⟨F2, al2, w, s2, x2, X2, wv, h2⟩ := toW_ok X1 rv1 h1
  cases w with
  | loc n => exact h2.elim
  | raw u φ => exact h2.elim
  | d x =>
    cases x <;> first | exact h2.elim | skip
    rename_i ds
    obtain ⟨a, xs, rfl, ea, dv⟩ := (show Dv F2 _ (.tup ds) from wv).tupE
    refine ⟨a, rfl, ⟨xs, SqT.of (X2.sm _ _ ea)⟩, q ds s2 F2 al2 H1 _ _ _ (x1.trans x2) X2 (dv.length ▸ walk_tup) (fun H2 sm => SqT.of (sm _ _ ea)) (fun i H1 x H2 hi sm y => ?_) h2⟩
    obtain ⟨e1, e2⟩ := y
    exact .inl ⟨e1, dv.getV e2⟩
def upto (lo : Int) (n : Nat) : List D := (List.range n).map fun (i : Nat) => D.int (lo + (i : Int))
theorem upto_length {lo : Int} {n : Nat} : (upto lo n).length = n := by unfold upto; rw [List.length_map, List.length_range]
theorem upto_get {lo : Int} {n i : Nat} (h : i < n) : (upto lo n)[i]? = some (.int (lo + (i : Int))) := by
  unfold upto
  rw [List.getElem?_map, List.getElem?_range h]; rfl
def aIR1 (t : AR) : AI := fun s A => t s fun rs s1 => match pks s1 rs with
  | some [.int j] => (-(2 ^ 62) ≤ j ∧ j < 2 ^ 62) ∧ A (upto 0 j.toNat) s1
  | _ => False
theorem RI.rng1 {ta : TA} {t : AR} (ht : RR Z ta t) : RI Z (iRng1 ta) (aIR1 t) := fun B hB F al s σ H R A X h q => by
  refine ht B hB F al s σ H _ _ X h ?_
  intro rs s1 F1 al1 H1 vs x1 X1 rvs h1
  split at h1
  · rename_i j e
    have tv := X1.peeks rvs e
    cases tv with | cons t1 t => ?_
    cases t
    cases t1.intE
    refine ⟨j, rfl, h1.1.1, h1.1.2, q _ s1 F1 al1 H1 _ _ _ x1 X1 (by rw [upto_length]; exact walk_range) (fun _ _ => trivial) (fun i H1 x H2 hi sm y => ?_) h1.2⟩
    rw [upto_length] at hi
    obtain ⟨rfl, rfl⟩ := y
    exact .inl ⟨rfl, _, upto_get hi, .int _⟩
  · exact h1.elim
def aIR2 (t : AR) : AI := fun s A => t s fun rs s1 => match pks s1 rs with
  | some [.int i, .int j] => (-(2 ^ 62) ≤ i ∧ i < 2 ^ 62 ∧ -(2 ^ 62) ≤ j ∧ j < 2 ^ 62) ∧ A (upto i (j - i).toNat) s1
  | _ => False
theorem RI.rng2 {ta : TA} {t : AR} (ht : RR Z ta t) : RI Z (iRng2 ta) (aIR2 t) := fun B hB F al s σ H R A X h q => by
  refine ht B hB F al s σ H _ _ X h ?_
  intro rs s1 F1 al1 H1 vs x1 X1 rvs h1
  split at h1
  · rename_i i j e
    have tv := X1.peeks rvs e
    cases tv with | cons t1 t => ?_
    cases t with | cons t2 t => ?_
    cases t
    cases t1.intE
    cases t2.intE
    refine ⟨i, j, rfl, h1.1, q _ s1 F1 al1 H1 _ _ _ x1 X1 (by rw [upto_length]; exact walk_range) (fun _ _ => trivial) (fun i H1 x H2 hi sm y => ?_) h1.2⟩
    rw [upto_length] at hi
    obtain ⟨rfl, rfl⟩ := y
    exact .inl ⟨rfl, _, upto_get hi, .int _⟩
  · exact h1.elim
def enumD : Nat → List D → List D
  | _, [] => []
  | k, d :: ds => .tup [.int (k : Int), d] :: enumD (k + 1) ds
theorem enumD_length : ∀ {k : Nat} {ds : List D}, (enumD k ds).length = ds.length
  | _, [] => rfl
  | k, d :: ds => by rw [enumD, List.length_cons, List.length_cons, enumD_length]
theorem enumD_get : ∀ {k i : Nat} {ds : List D} {d : D}, ds[i]? = some d → (enumD k ds)[i]? = some (.tup [.int ((k + i : Nat) : Int), d])
  | _, _, [], _, h => by simp at h
  | k, 0, d :: ds, e, h => by simp at h; subst h; simp [enumD]
  | k, i + 1, d :: ds, e, h => by
    rw [enumD, List.getElem?_cons_succ, enumD_get (k := k + 1) (i := i) (by simpa using h)]
    rw [show k + 1 + i = k + (i + 1) by omega]
def aIE (t : AA) : AI := fun s A => t s fun ws s1 => match ws with
  | [.d (.lst ds)] => A (enumD 0 ds) s1
  | _ => False
theorem RI.enum {ta : TA} {t : AA} (ht : RA Z ta t) : RI Z (iEnum K ta) (aIE t) := fun B hB F al s σ H R A X h q => by
  refine ht B hB F al s σ H _ _ X h ?_
  intro ws s1 F1 al1 H1 vs x1 X1 wvs h1
  split at h1
  · rename_i ds
    cases wvs with | cons w1 t => ?_
    cases t
    obtain ⟨a, xs, rfl, ea, dv⟩ := (show Dv F1 _ (.lst ds) from w1).lstE
    refine ⟨a, xs, rfl, SqL.of (X1.sm _ _ ea), q _ s1 F1 al1 H1 _ _ _ x1 X1 (by rw [enumD_length, ← dv.length]; exact walk_enum) (fun H2 sm => SqL.of (sm _ _ ea)) (fun i H1 x H2 hi sm y => ?_) h1⟩
    obtain ⟨T, x', y', e1, e2, e3, e4, e5⟩ := y
    obtain ⟨d, e6, e7⟩ := dv.getV e5
    cases e4
    exact .inr ⟨T, _, _, e1, e2, e3, enumD_get e6, .cons (by rw [Nat.zero_add]; exact .int _) (.cons e7 .nil)⟩
  · exact h1.elim
def zipD : List D → List D → List D
  | d :: ds, e :: es => .tup [d, e] :: zipD ds es
  | _, _ => []
theorem zipD_length : ∀ {ds es : List D}, (zipD ds es).length = min ds.length es.length
  | [], _ => by simp [zipD]
  | _ :: _, [] => by simp [zipD]
  | d :: ds, e :: es => by rw [zipD, List.length_cons, zipD_length, List.length_cons, List.length_cons]; omega
theorem zipD_get : ∀ {i : Nat} {ds es : List D} {d e : D}, ds[i]? = some d → es[i]? = some e → (zipD ds es)[i]? = some (.tup [d, e])
  | _, [], _, _, _, h, _ => by simp at h
  | _, _ :: _, [], _, _, _, h => by simp at h
  | 0, d :: ds, e :: es, _, _, h1, h2 => by simp at h1 h2; subst h1 h2; simp [zipD]
  | i + 1, d :: ds, e :: es, _, _, h1, h2 => by
    rw [zipD, List.getElem?_cons_succ]
    exact zipD_get (by simpa using h1) (by simpa using h2)
def aIZ (t : AA) : AI := fun s A => t s fun ws s1 => match ws with
  | [.d (.lst ds), .d (.lst es)] => A (zipD ds es) s1
  | _ => False
theorem RI.zip {ta : TA} {t : AA} (ht : RA Z ta t) : RI Z (iZip K ta) (aIZ t) := fun B hB F al s σ H R A X h q => by
  refine ht B hB F al s σ H _ _ X h ?_
  intro ws s1 F1 al1 H1 vs x1 X1 wvs h1
  split at h1
  · rename_i ds es
    cases wvs with | cons w1 t => ?_
    cases t with | cons w2 t => ?_
    cases t
    obtain ⟨a, xs, rfl, ea, dv⟩ := (show Dv F1 _ (.lst ds) from w1).lstE
    obtain ⟨b, ys, rfl, eb, dw⟩ := (show Dv F1 _ (.lst es) from w2).lstE
    refine ⟨a, b, xs, ys, rfl, SqL.of (X1.sm _ _ ea), SqL.of (X1.sm _ _ eb), q _ s1 F1 al1 H1 _ _ _ x1 X1 (walk_zip (by rw [zipD_length, dv.length, dw.length])) (fun H2 sm => ⟨SqL.of (sm _ _ ea), SqL.of (sm _ _ eb)⟩) (fun i H1 x H2 hi sm y => ?_) h1⟩
    obtain ⟨T, x', y', e1, e2, e3, e4, e5⟩ := y
    obtain ⟨d, e6, e7⟩ := dv.getV e4
    obtain ⟨e, e8, e9⟩ := dw.getV e5
    exact .inr ⟨T, _, _, e1, e2, e3, zipD_get e6 e8, .cons e7 (.cons e9 .nil)⟩
  · exact h1.elim
def strD (z : Str) : List D := z.cps.toList.map fun c => .str ⟨#[c]⟩
def aIS (a : AE) : AI := fun s A => a s fun r s1 => pk s1 r fun d => match d with
  | .str z => A (strD z) s1
  | _ => False
theorem RI.str {te : TE} {a : AE} (ha : RE Z te a) : RI Z (iStr te) (aIS a) := fun B hB F al s σ H R A X h q => by
  refine ha B hB F al s σ H _ _ X h ?_
  intro r s1 F1 al1 H1 v1 x1 X1 rv1 h1
  obtain ⟨d, e1, h2⟩ := pk_ok h1
  have tv := X1.peek rv1 e1
  cases d <;> first | exact h2.elim | skip
  rename_i z
  have hl : (strD z).length = z.cps.size := by unfold strD; rw [List.length_map, Array.length_toList]
  refine ⟨z, tv.strE, q (strD z) s1 F1 al1 H1 _ _ _ x1 X1 (by rw [hl]; exact walk_str) (fun H2 sm => trivial) (fun i H1 x H2 hi sm y => ?_) h2⟩
  obtain ⟨e1, c, e2, rfl⟩ := y
  refine .inl ⟨e1, .str ⟨#[c]⟩, ?_, .str _⟩
  unfold strD
  rw [List.getElem?_map, Array.getElem?_toList, e2]; rfl
/-! ### loops -/
def forGo (t : Tgt) (b : ASt) (E : AEnds) : List D → AS → Prop
  | [], s => E.nx s
  | d :: ds, s => match bindT t d s.env with
    | some env' => b ⟨forGo t b E ds, E.rt, E.nx, forGo t b E ds⟩ ⟨env', s.st⟩
    | none => False
def forG (t : Tgt) (b : ASt) (E : AEnds) (ds : List D) (s : AS) (_ : Tag E) : Prop := forGo t b E ds s
def aFor (ai : AI) (t : Tgt) (b : ASt) : ASt := fun D s => ai s fun ds s1 => forG t b D ds s1 ⟨⟩
/-- an item comes: the heap may have a new tuple, which is frozen -/
theorem Rel.item {ds : List D} {F1 : Hp} {H1 H2 : Hp} {y : V} (X : Rel B F' al s σ H1) (f : Same F1 F') (h : YOk F1 H1 ds i y H2) : ∃ F2 d, Ext F' F2 al al s.st.length s.st.length ∧ Rel B F2 al s σ H2 ∧ ds[i]? = some d ∧ Dv F2 y d ∧ ∀ b u, H1 b = some u → H2 b = some u := by
  rcases h with ⟨rfl, d, e1, e2⟩ | ⟨T, vs, es, rfl, n, rfl, e1, e2⟩
  · exact ⟨F', d, Ext.refl, X, e1, e2.mono f, fun _ _ e => e⟩
  · obtain ⟨F2, x2, X2, d2⟩ := X.newT n (e2.mono f)
    exact ⟨F2, _, x2, X2, e1, d2, fun b u e => by rw [upd_ne (ne_of_none e n)]; exact e⟩
theorem RD.re {D : Ends} {A : AEnds} (rd : RD B D A) (E : Ext B.F F B.al al B.L L) : RD (B.re F al L) D A :=
  ⟨fun F' al' s' σ' H' X h => rd.nx F' al' s' σ' H' (X.un E) h, fun F' al' st' H' n v X nv h => rd.rt F' al' st' H' n v (X.un E) nv h, fun F' al' s' σ' H' X h => rd.bk F' al' s' σ' H' (X.un E) h, fun F' al' s' σ' H' X h => rd.ct F' al' s' σ' H' (X.un E) h⟩
theorem RS.for {ti : TI} {ai : AI} {g : TG} {t : Tgt} {tb : TS} {b : ASt} (hi : RI Z ti ai) (hg : RG g t) (hb : RS Z tb b) : RS Z (tFor ti g tb) (aFor ai t b) := fun B hB D A rd F al s σ H X h => by
  refine hi B hB F al s σ H _ _ X h ?_
  intro ds s1 F1 al1 H1 J G Y x1 X1 wk hG hY h1
  have hB1 := hB.re X1.ex
  have rd1 := rd.re X1.ex
  generalize hB' : B.re F1 al1 s1.st.length = B1 at hB1 rd1
  have X1' : Rel B1 F1 al1 s1 σ H1 := by rw [← hB']; exact X1.re
  have BF : B1.F = F1 := by rw [← hB']; rfl
  refine for_it wk (fun i σ' H' => ∃ F' al' s', Rel B1 F' al' s' σ' H' ∧ forGo t b A (ds.drop i) s') ⟨F1, al1, s1, X1', h1⟩ ?_ ?_ ?_
  · rintro i σ' H' _ ⟨F', al', s', X', _⟩
    exact hG H' fun a o e => X'.sm a o (X'.ex.ff a o (by rw [BF]; exact e))
  · rintro i y σ' H' H2 hlt ⟨F', al', s', X', h'⟩ yl
    obtain ⟨F2, d, x2, X2, e1, dv, _⟩ := X'.item (F1 := F1) (fun a o e => X'.ex.ff a o (by rw [BF]; exact e)) (hY i H' y H2 hlt (fun a o e => X'.sm a o (X'.ex.ff a o (by rw [BF]; exact e))) yl)
    have hd : ds.drop i = d :: ds.drop (i + 1) := by
      obtain ⟨hl, e⟩ := List.getElem?_eq_some_iff.mp e1
      rw [← e]; exact List.drop_eq_getElem_cons hl
    rw [hd] at h'
    unfold forGo at h'
    cases z : bindT t d s'.env with
    | none => rw [z] at h'; exact h'.elim
    | some env' =>
      rw [z] at h'
      refine hg B1 F2 al' s' σ' H2 _ _ d env' X2 dv z fun σ3 X3 _ => ?_
      refine hb B1 hB1 _ ⟨forGo t b A (ds.drop (i + 1)), A.rt, A.nx, forGo t b A (ds.drop (i + 1))⟩ ?rd F2 al' _ σ3 H2 X3 h'
      refine ⟨?_, rd1.rt, rd1.nx, ?_⟩
      · intro F4 al4 s4 σ4 H4 X4 h4
        exact ⟨F4, al4, s4, X4, h4⟩
      · intro F4 al4 s4 σ4 H4 X4 h4
        exact ⟨F4, al4, s4, X4, h4⟩
  · rintro σ' H' ⟨F', al', s', X', h'⟩
    rw [List.drop_length] at h'
    exact rd1.nx F' al' s' σ' H' X' h'
def whN (c : AT) (b : ASt) (D : AEnds) : Nat → AS → Prop
  | 0, _ => False
  | m + 1, s => c s fun k s1 => if k = true then b ⟨whN c b D m, D.rt, D.nx, whN c b D m⟩ s1 else D.nx s1
def aWhile (c : AT) (b : ASt) : ASt := fun D s => ∃ m, whN c b D m s
def whileG (c : AT) (b : ASt) (E : AEnds) (s : AS) (_ : Tag E) : Prop := aWhile c b E s
def aWhileG (c : AT) (b : ASt) : ASt := fun D s => whileG c b D s ⟨⟩
theorem RS.while {c : TT} {c' : AT} {tb : TS} {b : ASt} (hc : RT Z c c') (hb : RS Z tb b) : RS Z (tWhile c tb) (aWhile c' b) := fun B hB D A rd F al s σ H X h => by
  obtain ⟨m, hm⟩ := h
  refine ⟨fun m σ' H' => ∃ F' al' s', Rel B F' al' s' σ' H' ∧ whN c' b A m s', ⟨m, F, al, s, X, hm⟩, ?_⟩
  rintro m σ' H' ⟨F', al', s', X', h'⟩
  cases m with
  | zero => exact h'.elim
  | succ m =>
    refine hc B hB F' al' s' σ' H' _ _ X' h' ?_
    intro k s1 F1 al1 H1 x1 X1 h1
    cases k with
    | false => exact rd.nx F1 al1 s1 σ' H1 X1 h1
    | true =>
      refine ⟨fun σ3 H3 => ∃ F3 al3 s3, Rel B F3 al3 s3 σ3 H3 ∧ whN c' b A m s3, fun σ3 H3 h3 => ⟨m, Nat.lt_succ_self m, h3⟩, ?_⟩
      refine hb B hB _ ⟨whN c' b A m, A.rt, A.nx, whN c' b A m⟩ ?rd F1 al1 s1 σ' H1 X1 h1
      refine ⟨?_, rd.rt, rd.nx, ?_⟩
      · intro F4 al4 s4 σ4 H4 X4 h4
        exact ⟨F4, al4, s4, X4, h4⟩
      · intro F4 al4 s4 σ4 H4 X4 h4
        exact ⟨F4, al4, s4, X4, h4⟩
/-! ### comprehensions -/
def wipeE : List Sl → List Nat → List Sl
  | env, [] => env
  | env, v :: vs => (wipeE env vs).set v .no
/-- the slots of a comprehension as they were -/
def backE (env0 : List Sl) : List Sl → List Nat → List Sl
  | env, [] => env
  | env, v :: vs => (backE env0 env vs).set v (match env0[v]? with
    | some (.v w) => .v w
    | _ => .no)
theorem wipeE_len {env : List Sl} : ∀ {vs : List Nat}, (wipeE env vs).length = env.length
  | [] => rfl
  | v :: vs => by rw [wipeE, List.length_set, wipeE_len]
theorem wipeE_get {env : List Sl} {j : Nat} {e : Sl} : ∀ {vs : List Nat}, (wipeE env vs)[j]? = some e → e = .no ∨ (j ∉ vs ∧ env[j]? = some e)
  | [], h => .inr ⟨by simp, h⟩
  | v :: vs, h => by
    unfold wipeE at h
    by_cases z : v = j
    · subst z; exact .inl (set_self h).2.symm
    · rw [List.getElem?_set_ne z] at h
      rcases wipeE_get h with q | ⟨q1, q2⟩
      · exact .inl q
      · exact .inr ⟨by simp [q1, Ne.symm z], q2⟩
theorem backE_len {env0 env : List Sl} : ∀ {vs : List Nat}, (backE env0 env vs).length = env.length
  | [] => rfl
  | v :: vs => by rw [backE, List.length_set, backE_len]
theorem backE_get {env0 env : List Sl} {j : Nat} {e : Sl} : ∀ {vs : List Nat}, (backE env0 env vs)[j]? = some e → e = .no ∨ (j ∉ vs ∧ env[j]? = some e) ∨ ∃ w, e = .v w ∧ env0[j]? = some (.v w)
  | [], h => .inr (.inl ⟨by simp, h⟩)
  | v :: vs, h => by
    unfold backE at h
    by_cases z : v = j
    · subst z
      have e' := (set_self h).2
      cases q : env0[v]? with
      | none => rw [q] at e'; exact .inl e'.symm
      | some y =>
        rw [q] at e'
        cases y with
        | no => exact .inl e'.symm
        | own c => exact .inl e'.symm
        | v w => exact .inr (.inr ⟨w, e'.symm, rfl⟩)
    · rw [List.getElem?_set_ne z] at h
      rcases backE_get h with q | ⟨q1, q2⟩ | q
      · exact .inl q
      · exact .inr (.inl ⟨by simp [q1, Ne.symm z], q2⟩)
      · exact .inr (.inr q)
/-- fewer slots are known -/
theorem Rel.sub {env' : List Sl} {τ : L2.St} (X : Rel B F al s σ H) (le : env'.length ≤ τ.length) (k : ∀ (j : Nat) (e : Sl), env'[j]? = some e → e = .no ∨ (s.env[j]? = some e ∧ τ[j]? = σ[j]?) ∨ ∃ w, e = .v w ∧ ∃ v, τ[j]? = some (some v) ∧ WV F al s.st.length w v) : Rel B F al ⟨env', s.st⟩ τ H where
  toRelS := X.toRelS
  le := le
  ev := fun j w e => by
    rcases k j _ e with q | ⟨q1, q2⟩ | ⟨w', q1, v, q2, q3⟩
    · cases q
    · obtain ⟨v, h1, h2⟩ := X.ev j w q1
      exact ⟨v, by rw [q2]; exact h1, h2⟩
    · cases q1; exact ⟨v, q2, q3⟩
  eo := fun j c e => by
    have own : ∀ (j : Nat) (c : Cell), env'[j]? = some (.own c) → s.env[j]? = some (.own c) ∧ τ[j]? = σ[j]? := fun j c e => by
      rcases k j _ e with q | q | ⟨w', q1, _⟩
      · cases q
      · exact q
      · cases q1
    obtain ⟨q1, q2⟩ := own j c e
    obtain ⟨a, ha, g, hc, h1, h2⟩ := X.eo j c q1
    refine ⟨a, by rw [q2]; exact ha, g, hc, h1, fun j' c' e' hj => ?_⟩
    obtain ⟨q3, q4⟩ := own j' c' e'
    exact h2 j' c' q3 (by rw [← q4]; exact hj)
theorem Rel.wipe {vs : List Nat} (X : Rel B F al s σ H) : Rel B F al ⟨wipeE s.env vs, s.st⟩ (L2.wipe σ vs) H :=
  X.sub (by rw [wipeE_len, wipe_length]; exact X.le) fun j e h => by
    rcases wipeE_get h with q | ⟨q1, q2⟩
    · exact .inl q
    · exact .inr (.inl ⟨q2, wipe_out q1⟩)
theorem wipe_wipe {σ : L2.St} {vs : List Nat} : L2.wipe (L2.wipe σ vs) vs = L2.wipe σ vs := by
  refine List.ext_getElem? fun j => ?_
  by_cases hj : j ∈ vs
  · by_cases hl : j < σ.length
    · have g : ∀ τ : L2.St, τ.length = σ.length → (L2.wipe τ vs)[j]? = some none := fun τ hτ => by
        cases q : (L2.wipe τ vs)[j]? with
        | none => rw [List.getElem?_eq_none_iff, wipe_length] at q; omega
        | some y => cases y with
          | none => rfl
          | some z => exact ((wipe_some q).2 hj).elim
      rw [g _ (wipe_length σ vs), g _ rfl]
    · rw [List.getElem?_eq_none_iff.mpr (by rw [wipe_length, wipe_length]; omega), List.getElem?_eq_none_iff.mpr (by rw [wipe_length]; omega)]
  · rw [wipe_out hj]
def lcGo (t : Tgt) (c : AT) (e : AE) (vs : List Nat) (k : List D → AS → Prop) : List D → AS → List D → Prop
  | [], s, acc => k acc s
  | d :: ds, s, acc => match bindT t d s.env with
    | some env' => c ⟨env', s.st⟩ fun b s1 => if b = true then e s1 fun r s2 => toW r s2 fun w s3 => match w with
        | .d x => acc.length < sizeLine ∧ lcGo t c e vs k ds ⟨wipeE s3.env vs, s3.st⟩ (acc ++ [x])
        | _ => False
      else lcGo t c e vs k ds ⟨wipeE s1.env vs, s1.st⟩ acc
    | none => False
def lcG (t : Tgt) (c : AT) (e : AE) (vs : List Nat) (k : List D → AS → Prop) (ds : List D) (s : AS) (acc : List D) (_ : Tag k) : Prop := lcGo t c e vs k ds s acc
def aLc (ai : AI) (t : Tgt) (c : AT) (e : AE) (vs : List Nat) : AN := fun s A => ai s fun ds s1 => lcG t c e vs (fun zs s2 => A (.new (.lst zs)) ⟨backE s1.env s2.env vs, s2.st⟩) ds ⟨wipeE s1.env vs, s1.st⟩ [] ⟨⟩
theorem RN.lc {ti : TI} {ai : AI} {g : TG} {t : Tgt} {tt : TT} {c : AT} {te : TE} {e : AE} {vs : List Nat} (hi : RI Z ti ai) (hg : RG g t) (hc : RT Z tt c) (he : RE Z te e) (hv : ∀ j ∈ slots t, j ∈ vs) : RN Z (tLc ti g tt te vs) (aLc ai t c e vs) := fun B hB F al s σ H Q A X h q => by
  refine hi B hB F al s σ H _ _ X h ?_
  intro ds s1 F1 al1 H1 J G Y x1 X1 wk hG hY h1 Dl nD
  have hB1 := hB.re X1.ex
  have X1' := X1.re
  have un : ∀ {F' al' s' σ' H'}, Rel (B.re F1 al1 s1.st.length) F' al' s' σ' H' → Rel B F' al' s' σ' H' := fun X' => X'.un X1.ex
  generalize hB' : B.re F1 al1 s1.st.length = B1 at hB1 X1' un
  have BF : B1.F = F1 := by rw [← hB']; rfl
  have BA : B1.al = al1 := by rw [← hB']; rfl
  have BL : B1.L = s1.st.length := by rw [← hB']; rfl
  have ap0 := X1'.apart nD
  refine lc_it wk (fun i H' => ∃ F' al' s' vacc acc, Rel B1 F' al' s' (L2.wipe σ vs) H' ∧ Apart B1 F' al' s' (L2.wipe σ vs) Dl ∧ H' Dl = some (.lst vacc) ∧ DvAll F' vacc acc ∧ lcGo t c e vs (fun zs s2 => A (.new (.lst zs)) ⟨backE s1.env s2.env vs, s2.st⟩) (ds.drop i) s' acc) ?_ ?_ ?_ ?_
  · refine ⟨F1, al1, ⟨wipeE s1.env vs, s1.st⟩, [], [], (X1'.new nD).wipe, ?_, upd_same, .nil, h1⟩
    refine ⟨ap0.g, ap0.f, ap0.a, fun j c' ej hj => ?_⟩
    rcases wipeE_get ej with z | ⟨z1, z2⟩
    · cases z
    · rw [wipe_out z1] at hj; exact ap0.e j c' z2 hj
  · rintro i H' _ ⟨F', al', s', vacc, acc, X', _⟩
    exact hG H' fun a o e => X'.sm a o (X'.ex.ff a o (by rw [BF]; exact e))
  · rintro i y H' H2 hlt ⟨F', al', s', vacc, acc, X', ap, hD, dva, h'⟩ yl
    have f1 : Same F1 F' := fun a o e => X'.ex.ff a o (by rw [BF]; exact e)
    have Xg := X'.guard ap hD
    have hBg := hB1.gd (o := .lst vacc) ap.g
    obtain ⟨F2, d, x2, X2, e1, dv, k2⟩ := Xg.item (F1 := F1) f1 (hY i H' y H2 hlt (fun a o e => X'.sm a o (f1 a o e)) yl)
    have hd : ds.drop i = d :: ds.drop (i + 1) := by
      obtain ⟨hl, e⟩ := List.getElem?_eq_some_iff.mp e1
      rw [← e]; exact List.drop_eq_getElem_cons hl
    rw [hd] at h'
    unfold lcGo at h'
    cases z : bindT t d s'.env with
    | none => rw [z] at h'; exact h'.elim
    | some env' =>
      rw [z] at h'
      refine hg _ F2 al' s' _ H2 _ _ d env' X2 dv z fun σ3 X3 w3 => ?_
      have w3' : L2.wipe σ3 vs = L2.wipe σ vs := by
        rw [w3 vs hv]
        exact wipe_wipe
      refine ⟨w3', ?_⟩
      refine hc _ hBg F2 al' _ σ3 H2 _ _ X3 h' ?_
      intro b s4 F4 al4 H4 x4 X4 h4
      cases b with
      | false =>
        obtain ⟨X5, hD5, ap5⟩ := X4.unguard ap.g
        have X6 := X5.wipe (vs := vs)
        rw [w3'] at X6
        refine ⟨F4, al4, _, vacc, acc, X6, ⟨ap5.g, ap5.f, ap5.a, fun j c' ej hj => ?_⟩, hD5, dva.mono fun a o e => x4.ff a o (x2.ff a o e), h4⟩
        rcases wipeE_get ej with z | ⟨z1, z2⟩
        · cases z
        · rw [← w3', wipe_out z1] at hj; exact ap5.e j c' z2 hj
      | true =>
        refine he _ hBg F4 al4 s4 σ3 H4 _ _ X4 h4 ?_
        intro r s5 F5 al5 H5 v5 x5 X5 rv5 h5
        obtain ⟨F6, al6, w, s6, x6, X6, wv, h6⟩ := toW_ok X5 rv5 h5
        cases w with
        | loc n => exact h6.elim
        | raw u φ => exact h6.elim
        | d zz =>
          obtain ⟨X7, hD7, ap7⟩ := X6.unguard ap.g
          have dva6 : DvAll F6 vacc acc := dva.mono fun a o e => x6.ff a o (x5.ff a o (x4.ff a o (x2.ff a o e)))
          refine ⟨vacc, hD7, by rw [dva6.length]; exact h6.1, F6, al6, ⟨wipeE s6.env vs, s6.st⟩, vacc ++ [v5], acc ++ [zz], ?_, ⟨ap7.g, ap7.f, ap7.a, fun j c' ej hj => ?_⟩, upd_same, dva6.append (.cons wv .nil), h6.2⟩
          · have X8 := X7.heap (H' := upd H5 Dl (.lst (vacc ++ [v5]))) fun b u e hb => by
              rw [upd_ne]
              · exact e
              · rintro rfl
                rcases hb with z | z | ⟨n, z1, z2⟩ | ⟨j, c', z1, z2⟩
                · rw [ap7.g] at z; cases z
                · rw [ap7.f] at z; cases z
                · exact ap7.a n z1 z2
                · exact ap7.e j c' z1 z2
            have X9 := X8.wipe (vs := vs)
            rw [w3'] at X9
            exact X9
          · rcases wipeE_get ej with z | ⟨z1, z2⟩
            · cases z
            · rw [← w3', wipe_out z1] at hj; exact ap7.e j c' z2 hj
  · rintro H' ⟨F', al', s', vacc, acc, X', ap, hD, dva, h'⟩
    rw [List.drop_length] at h'
    unfold lcGo at h'
    have ex1 : Ext F1 F' al1 al' s1.st.length s'.st.length := by
      have := X'.ex
      rw [BF, BA, BL] at this
      exact this
    have lenE : ∀ j e, (backE s1.env s'.env vs)[j]? = some e → e = .no ∨ (j ∉ vs ∧ s'.env[j]? = some e ∧ σ[j]? = (L2.wipe σ vs)[j]?) ∨ ∃ w, e = .v w ∧ s1.env[j]? = some (.v w) := fun j e hj => by
      rcases backE_get hj with z | ⟨z1, z2⟩ | z
      · exact .inl z
      · exact .inr (.inl ⟨z1, z2, (wipe_out z1).symm⟩)
      · exact .inr (.inr z)
    have X2 : Rel B1 F' al' ⟨backE s1.env s'.env vs, s'.st⟩ σ H' := X'.sub (by rw [backE_len, ← wipe_length σ vs]; exact X'.le) fun j e hj => by
      rcases lenE j e hj with z | ⟨z1, z2, z3⟩ | ⟨w, z1, z2⟩
      · exact .inl z
      · exact .inr (.inl ⟨z2, z3⟩)
      · obtain ⟨v, h1, h2⟩ := X1.ev j w z2
        exact .inr (.inr ⟨w, z1, v, h1, h2.ext ex1⟩)
    refine q (.new (.lst acc)) ⟨backE s1.env s'.env vs, s'.st⟩ F' al' H' _ (x1.trans ex1) (un X2) ?_ h'
    refine ⟨⟨Dl, rfl, ?_, ⟨ap.f, _, hD, .lst dva⟩, ap.a⟩, fun c' ec j c'' ej hj => ?_⟩
    · have := ap.g; rw [← hB'] at this; exact this
    · rcases lenE j _ ej with z | ⟨z1, z2, z3⟩ | ⟨w, z1, z2⟩
      · cases z
      · exact ap.e j c'' z2 (by rw [← z3]; exact hj)
      · cases z1
end
end Zi

set_option Elab.async false
set_option linter.all false
set_option maxRecDepth 100000
set_option maxHeartbeats 1000000
/-! Zn: dicts, further operators, defs. -/
namespace Zi
open PySem PySem.Spec PyProof.Rows L2 Ly
section
variable {Z : EX} {K : PySem.W.Frag} {B : Bs} {F F' F1 H H' : Hp} {al al' al1 : Nat → Addr} {s s' : AS} {σ σ' : L2.St} {v : V} {x : D} {r : R} {cc : Cell} {o : HO} {a p : Addr} {i n L L' : Nat} {ww : W} {st st' : List Cell}
/-! ### operators -/
def oAdd : O2 := oI fun i j => .int (i + j)
def oSub : O2 := oI fun i j => .int (i - j)
def oLt : O2 := oI fun i j => .bl (decide (i < j))
def oLe : O2 := oI fun i j => .bl (decide (i ≤ j))
def oGt : O2 := oI fun i j => .bl (decide (j < i))
def oGe : O2 := oI fun i j => .bl (decide (j ≤ i))
theorem oAdd_ok : OR2 (rI0 fun i j => .int (i + j)) oAdd := oI_ok fun _ _ _ => .int _
theorem oSub_ok : OR2 (rI0 fun i j => .int (i - j)) oSub := oI_ok fun _ _ _ => .int _
theorem oLt_ok : OR2 (rI0 fun i j => .bl (decide (i < j))) oLt := oI_ok fun _ _ _ => .bl _
theorem oLe_ok : OR2 (rI0 fun i j => .bl (decide (i ≤ j))) oLe := oI_ok fun _ _ _ => .bl _
theorem oGt_ok : OR2 (rI0 fun i j => .bl (decide (j < i))) oGt := oI_ok fun _ _ _ => .bl _
theorem oGe_ok : OR2 (rI0 fun i j => .bl (decide (j ≤ i))) oGe := oI_ok fun _ _ _ => .bl _
def oMul : O2 := oIc CMul fun i j => .int (i * j)
theorem oMul_ok : OR2 (rI CMul fun i j => .int (i * j)) oMul := oIc_ok fun _ _ _ => .int _
def oMulW : O2 := oIc CMulW fun i j => .int (i * j)
theorem oMulW_ok : OR2 (rI CMulW fun i j => .int (i * j)) oMulW := oIc_ok fun _ _ _ => .int _
def oMod : O2 := oIc (fun _ j => 0 < j) fun i j => .int (i % j)
theorem oMod_ok : OR2 (rI (fun _ j => 0 < j) fun i j => .int (i % j)) oMod := oIc_ok fun _ _ _ => .int _
def oDiv : O2 := oIc CDiv fun i j => .int (i / j)
theorem oDiv_ok : OR2 (rI CDiv fun i j => .int (i / j)) oDiv := oIc_ok fun _ _ _ => .int _
def oDivW : O2 := oIc CDivW fun i j => .int (i / j)
theorem oDivW_ok : OR2 (rI CDivW fun i j => .int (i / j)) oDivW := oIc_ok fun _ _ _ => .int _
def oPow : O2 := oIc CPowW fun i j => .int (i ^ j.toNat)
theorem oPow_ok : OR2 (rI CPowW fun i j => .int (i ^ j.toNat)) oPow := oIc_ok fun _ _ _ => .int _
def oAddS : O2 := fun d e A => match d, e with
  | .str i, .str j => i.length + j.length ≤ sizeLine ∧ A (.str (i ++ j))
  | _, _ => False
theorem oAddS_ok : OR2 (fun x y H Q => ∃ i j, x = V.str i ∧ y = V.str j ∧ i.length + j.length ≤ sizeLine ∧ Q (V.str (i ++ j)) H) oAddS := fun F H x y d e Q A sm hx hy h q => by
  cases d <;> cases e <;> first | exact h.elim | skip
  exact ⟨_, _, hx.strE, hy.strE, h.1, q _ _ (.str _) h.2⟩
def oInS : O2 := fun d e A => match d, e with
  | .str i, .str j => A (.bl (!(Builtin.Str.occurrences j i 0 j.length 1).isEmpty))
  | _, _ => False
theorem oInS_ok : OR2 (fun x y H Q => ∃ i j, x = V.str i ∧ y = V.str j ∧ Q (V.bl !(Builtin.Str.occurrences j i 0 j.length 1).isEmpty) H) oInS := fun F H x y d e Q A sm hx hy h q => by
  cases d <;> cases e <;> first | exact h.elim | skip
  exact ⟨_, _, hx.strE, hy.strE, q _ _ (.bl _) h⟩
def isNon : D → Bool
  | .non => true
  | _ => false
theorem isNon_dec {v : V} {d : D} (h : Tv F H v d) : decide (v = .non) = isNon d := by
  cases d with
  | non => cases (show Dv F v .non from h).nonE; rfl
  | bl b => cases h.blE; rfl
  | int b => cases h.intE; rfl
  | str b => cases h.strE; rfl
  | lst ds => obtain ⟨a, _, rfl, _⟩ := h; rfl
  | tup ds => obtain ⟨a, _, rfl, _⟩ := h; rfl
  | dic ks ds => obtain ⟨a, _, rfl, _⟩ := h; rfl
  | ins C ns ds => obtain ⟨a, _, _, rfl, _⟩ := h; rfl
def oIs : O2 := fun d e A => match e with
  | .non => A (.bl (isNon d))
  | _ => False
def oIsNot : O2 := fun d e A => match e with
  | .non => A (.bl (!isNon d))
  | _ => False
theorem oIs_ok : OR2 (fun x y H Q => y = V.non ∧ Q (V.bl (decide (x = V.non))) H) oIs := fun F H x y d e Q A sm hx hy h q => by
  cases e <;> first | exact h.elim | skip
  refine ⟨(show Dv F y .non from hy).nonE, ?_⟩
  rw [isNon_dec hx]
  exact q _ _ (.bl _) h
theorem oIsNot_ok : OR2 (fun x y H Q => y = V.non ∧ Q (V.bl (!decide (x = V.non))) H) oIsNot := fun F H x y d e Q A sm hx hy h q => by
  cases e <;> first | exact h.elim | skip
  refine ⟨(show Dv F y .non from hy).nonE, ?_⟩
  rw [isNon_dec hx]
  exact q _ _ (.bl _) h
def oIsB : O2 := fun d e A => match d, e with
  | .bl a, .bl b => A (.bl (decide (a = b)))
  | _, _ => False
def oIsNB : O2 := fun d e A => match d, e with
  | .bl a, .bl b => A (.bl (!decide (a = b)))
  | _, _ => False
theorem oIsB_ok : OR2 rIsB oIsB := fun F H x y d e Q A sm hx hy h q => by
  cases d <;> cases e <;> first | exact h.elim | skip
  exact ⟨_, _, hx.blE, hy.blE, q _ _ (.bl _) h⟩
theorem oIsNB_ok : OR2 rNotB oIsNB := fun F H x y d e Q A sm hx hy h q => by
  cases d <;> cases e <;> first | exact h.elim | skip
  exact ⟨_, _, hx.blE, hy.blE, q _ _ (.bl _) h⟩
def bMax2 : List D → (D → Prop) → Prop := fun ds A => match ds with
  | [.int i, .int j] => A (.int (if j > i then j else i))
  | _ => False
theorem bMax2_ok : OB (fun xs H Q => ∃ i j, xs = [V.int i, V.int j] ∧ Q (V.int (if j > i then j else i)) H) bMax2 := fun F H vs ds Q A sm tv h q => by
  unfold bMax2 at h
  split at h
  · cases tv with | cons t1 t => ?_
    cases t with | cons t2 t => ?_
    cases t
    cases t1.intE
    cases t2.intE
    exact ⟨_, _, rfl, q _ _ (.int _) h⟩
  · exact h.elim
def bMin2 : List D → (D → Prop) → Prop := fun ds A => match ds with
  | [.int i, .int j] => A (.int (if j < i then j else i))
  | _ => False
theorem bMin2_ok : OB (fun xs H Q => ∃ i j, xs = [V.int i, V.int j] ∧ Q (V.int (if j < i then j else i)) H) bMin2 := fun F H vs ds Q A sm tv h q => by
  unfold bMin2 at h
  split at h
  · cases tv with | cons t1 t => ?_
    cases t with | cons t2 t => ?_
    cases t
    cases t1.intE
    cases t2.intE
    exact ⟨_, _, rfl, q _ _ (.int _) h⟩
  · exact h.elim
def oBits : D → (D → Prop) → Prop := fun d A => match d with
  | .int i => A (.int (Builtin.Int.intBits i))
  | _ => False
theorem RE.bits {ta : TE} {a : AE} (ha : RE Z ta a) : RE Z (tBits ta) (aUn oBits a) := fun B hB F al s σ H Q A X h q =>
  ha B hB F al s σ H _ _ X h fun r1 s1 F1 al1 H1 v1 x1 X1 rv1 h1 => by
    obtain ⟨d, e1, h1⟩ := pk_ok h1
    cases d <;> first | exact h1.elim | skip
    exact ⟨_, (X1.peek rv1 e1).intE, q (.w (.d (.int _))) s1 F1 al1 H1 _ x1 X1 (Dv.int _) h1⟩
/-! ### isinstance of a built-in class -/
def tyN : D → String
  | .non => "NoneType"
  | .bl _ => "bool"
  | .int _ => "int"
  | .str _ => "str"
  | .lst _ => "list"
  | .tup _ => "tuple"
  | .dic _ _ => "dict"
  | .ins _ _ _ => ""
def aIsi (a : AE) (T : String) : AE := fun s A => a s fun r s1 => pk s1 r fun d => match kitB (tyN d) T with
  | some b => A (.w (.d (.bl b))) s1
  | none => False
/-! ### dicts -/
def keyOf : D → Option Key
  | .int i => some (.inl i)
  | .str s => some (.inr s)
  | _ => none
theorem keyOf_v {d : D} {q : Key} (h : keyOf d = some q) (t : Tv F H v d) : v = kV q := by
  cases d <;> first | (cases h; done) | skip
  · cases h; exact t.intE
  · cases h; exact t.strE
def isK : D → Key → Bool
  | .int i, .inl j => decide (i = j)
  | .str i, .inr j => decide (i = j)
  | _, _ => false
theorem isK_k (q q' : Key) : isK (kD q) q' = decide (q = q') := by
  cases q with
  | inl i => cases q' with
    | inl j => exact decide_eq_decide.mpr ⟨fun z => by rw [z], fun z => Sum.inl.inj z⟩
    | inr j => exact (decide_eq_false (fun z => nomatch z)).symm
  | inr i => cases q' with
    | inl j => exact (decide_eq_false (fun z => nomatch z)).symm
    | inr j => exact decide_eq_decide.mpr ⟨fun z => by rw [z], fun z => Sum.inr.inj z⟩
def dget : List D → List D → Key → Option D
  | k :: ks, d :: ds, q => if isK k q = true then some d else dget ks ds q
  | _, _, _ => none
theorem dget_ok {q : Key} : ∀ {kvs : List (Key × V)} {ds : List D}, DvAll F (kvs.map (·.2)) ds → match dget (kvs.map fun kv => kD kv.1) ds q with
    | some d => ∃ v, valV kvs q = some v ∧ Dv F v d
    | none => valV kvs q = none
  | [], _, h => by cases h; rfl
  | kv :: kvs, _, h => by
    cases h with | cons h1 h2 => ?_
    have ih := dget_ok (q := q) h2
    rw [List.map_cons, dget, isK_k]
    by_cases e : kv.1 = q
    · rw [if_pos (decide_eq_true e)]
      exact ⟨kv.2, valV_pos e, h1⟩
    · rw [if_neg (by rw [decide_eq_false e]; decide), valV_neg e]
      exact ih
def aDNew : AN := fun s A => A (.new (.dic [])) s
theorem RN.dnew : RN Z tDNewK aDNew := fun B hB F al s σ H Q A X h q => fun p np =>
  q (.new (.dic [])) s F al _ _ Ext.refl (X.new np) ((X.apart np).nve ⟨X.sm.free np, _, upd_same, .dic .nil⟩) h
def withDic (s : AS) (rk rd : R) (k : Key → List D → List D → Prop) : Prop := pk s rk fun kd => pk s rd fun dd => match keyOf kd, dd with
  | some q, .dic ks ds => k q ks ds
  | _, _ => False
theorem withDic_ok {rk rd : R} {vk vd : V} {k : Key → List D → List D → Prop} (X : Rel B F al s σ H) (hk : RV F al s.st.length σ rk vk) (hd : RV F al s.st.length σ rd vd) (h : withDic s rk rd k) :
    ∃ q a kvs ds, vk = kV q ∧ vd = .ref a ∧ H a = some (.dK kvs) ∧ DvAll F (kvs.map (·.2)) ds ∧ k q (kvs.map fun kv => kD kv.1) ds := by
  unfold withDic at h
  obtain ⟨kd, e1, h⟩ := pk_ok h
  obtain ⟨dd, e2, h⟩ := pk_ok h
  have t1 := X.peek hk e1
  have t2 := X.peek hd e2
  split at h
  · rename_i q ks ds eq
    obtain ⟨a, kvs, rfl, ea, rfl, dv⟩ := t2
    exact ⟨q, a, kvs, ds, keyOf_v eq t1, rfl, ea, dv, h⟩
  · exact h.elim
def aDIn (neg : Bool) (k d : AE) : AE := fun s A => k s fun rk s1 => d s1 fun rd s2 => withDic s2 rk rd fun q ks ds => A (.w (.d (.bl (if neg then !(dget ks ds q).isSome else (dget ks ds q).isSome)))) s2
theorem dget_some {q : Key} {kvs : List (Key × V)} {ds : List D} (h : DvAll F (kvs.map (·.2)) ds) : (valV kvs q).isSome = (dget (kvs.map fun kv => kD kv.1) ds q).isSome := by
  have := dget_ok (q := q) h
  cases z : dget (kvs.map fun kv => kD kv.1) ds q with
  | none => rw [z] at this; rw [this]; rfl
  | some d => rw [z] at this; obtain ⟨v, e, _⟩ := this; rw [e]; rfl
theorem RE.din {ty td : TE} {k d : AE} (hk : RE Z ty k) (hd : RE Z td d) : RE Z (tDIn ty td) (aDIn false k d) := fun B hB F al s σ H Q A X h q => by
  refine hk B hB F al s σ H _ _ X h ?_
  intro rk s1 F1 al1 H1 v1 x1 X1 rv1 h1
  refine hd B hB F1 al1 s1 σ H1 _ _ X1 h1 ?_
  intro rd s2 F2 al2 H2 v2 x2 X2 rv2 h2
  obtain ⟨q', a, kvs, ds, rfl, rfl, ea, dv, h3⟩ := withDic_ok X2 (rv1.ext x2) rv2 h2
  refine ⟨a, _, rfl, DGet.k ea, ?_⟩
  rw [dget_some dv]
  exact q (.w (.d (.bl _))) s2 F2 al2 H2 _ (x1.trans x2) X2 (Dv.bl _) h3
theorem RE.dnin {ty td : TE} {k d : AE} (hk : RE Z ty k) (hd : RE Z td d) : RE Z (tDNotIn ty td) (aDIn true k d) := fun B hB F al s σ H Q A X h q => by
  refine hk B hB F al s σ H _ _ X h ?_
  intro rk s1 F1 al1 H1 v1 x1 X1 rv1 h1
  refine hd B hB F1 al1 s1 σ H1 _ _ X1 h1 ?_
  intro rd s2 F2 al2 H2 v2 x2 X2 rv2 h2
  obtain ⟨q', a, kvs, ds, rfl, rfl, ea, dv, h3⟩ := withDic_ok X2 (rv1.ext x2) rv2 h2
  refine ⟨a, _, rfl, DGet.k ea, ?_⟩
  rw [dget_some dv]
  exact q (.w (.d (.bl _))) s2 F2 al2 H2 _ (x1.trans x2) X2 (Dv.bl _) h3
def aDGet (d k : AE) : AE := fun s A => d s fun rd s1 => k s1 fun rk s2 => withDic s2 rk rd fun q ks ds => match dget ks ds q with
  | some x => A (.w (.d x)) s2
  | none => False
theorem RE.dget {td ty : TE} {d k : AE} (hd : RE Z td d) (hk : RE Z ty k) : RE Z (tDGet td ty) (aDGet d k) := fun B hB F al s σ H Q A X h q => by
  refine hd B hB F al s σ H _ _ X h ?_
  intro rd s1 F1 al1 H1 v1 x1 X1 rv1 h1
  refine hk B hB F1 al1 s1 σ H1 _ _ X1 h1 ?_
  intro rk s2 F2 al2 H2 v2 x2 X2 rv2 h2
  obtain ⟨q', a, kvs, ds, rfl, rfl, ea, dv, h3⟩ := withDic_ok X2 rv2 (rv1.ext x2) h2
  have := dget_ok (q := q') dv
  split at h3
  · rename_i x e
    rw [e] at this
    obtain ⟨v, e1, e2⟩ := this
    exact ⟨a, v, rfl, by rw [← e1]; exact DGet.k ea, q (.w (.d x)) s2 F2 al2 H2 v (x1.trans x2) X2 e2 h3⟩
  · exact h3.elim
def putZ (kvs : List (Key × D)) (k : Key) (v : D) : List (Key × D) :=
  if (kvs.any fun kv => decide (kv.1 = k)) = true then kvs.map (fun kv => if kv.1 = k then (kv.1, v) else kv) else kvs ++ [(k, v)]
abbrev PD (F : Hp) : List (Key × V) → List (Key × D) → Prop := Paired (fun (p : Key × V) (q : Key × D) => p.1 = q.1 ∧ Dv F p.2 q.2)
theorem PD.any {k : Key} : ∀ {kvs : List (Key × V)} {kds : List (Key × D)}, PD F kvs kds → (kvs.any fun kv => decide (kv.1 = k)) = kds.any fun kv => decide (kv.1 = k)
  | _, _, .nil => rfl
  | _, _, .cons h t => by rw [List.any_cons, List.any_cons, PD.any t, h.1]
theorem PD.map {k : Key} {v : V} {d : D} (hv : Dv F v d) : ∀ {kvs : List (Key × V)} {kds : List (Key × D)}, PD F kvs kds → PD F (kvs.map (fun kv => if kv.1 = k then (kv.1, v) else kv)) (kds.map (fun kv => if kv.1 = k then (kv.1, d) else kv))
  | _, _, .nil => .nil
  | _, _, .cons (a := a) (b := b) h t => by
    refine .cons ?_ (PD.map hv t)
    dsimp only
    rw [h.1]
    by_cases e : b.1 = k
    · rw [if_pos e, if_pos e]; exact ⟨rfl, hv⟩
    · rw [if_neg e, if_neg e]; exact h
theorem PD.put {k : Key} {v : V} {d : D} (hv : Dv F v d) {kvs : List (Key × V)} {kds : List (Key × D)} (h : PD F kvs kds) : PD F (putK kvs k v) (putZ kds k d) := by
  unfold putK putZ
  rw [h.any]
  split
  · exact h.map hv
  · exact Paired.app h (.cons ⟨rfl, hv⟩ .nil)
def aDPut (d k e : AE) : ASt := fun N s => e s fun r s1 => toW r s1 fun w s2 => d s2 fun rd s3 => k s3 fun rk s4 => pk s4 rk fun kd => match keyOf kd, getC s4 rd, w with
  | some q, some (.dic kds), .d x => kds.length < sizeLine ∧ N.nx (putC s4 rd (.dic (putZ kds q x)))
  | _, _, _ => False
theorem RS.dput {td ty tv : TE} {d k e : AE} (hd : RE Z td d) (hk : RE Z ty k) (he : RE Z tv e) : RS Z (sDPut td ty tv) (aDPut d k e) := fun B hB D A rd F al s σ H X h => by
  refine he B hB F al s σ H _ _ X h ?_
  intro r s1 F1 al1 H1 v1 x1 X1 rv1 h1
  obtain ⟨F2, al2, w, s2, x2, X2, wv, h2⟩ := toW_ok X1 rv1 h1
  refine hd B hB F2 al2 s2 σ H1 _ _ X2 h2 ?_
  intro rdd s3 F3 al3 H3 v3 x3 X3 rv3 h3
  refine hk B hB F3 al3 s3 σ H3 _ _ X3 h3 ?_
  intro rk s4 F4 al4 H4 v4 x4 X4 rv4 h4
  obtain ⟨kd, e1, h5⟩ := pk_ok h4
  clear h4
  have tv := X4.peek rv4 e1
  split at h5
  · rename_i q kds x eq eg
    have dvx : Dv F4 v1 x := (wv.ext x3).ext x4
    obtain ⟨a, o, rfl, ho, hc, pt⟩ := X4.getC (rv3.ext x4) eg
    cases hc with | dic pd => ?_
    cases keyOf_v eq tv
    obtain ⟨X5, _⟩ := pt _ _ (.dic (PD.put (k := q) dvx pd))
    exact ⟨a, _, rfl, DPut.k ho (by rw [Paired.len pd]; exact h5.1), rd.nx F4 al4 _ _ _ X5 h5.2⟩
  · exact h5.elim
/-! ### defs -/
def ea0 : XA := fun _ _ _ => False
theorem RN.call0 {m : Nat} {asp : ASp} {ta : TA} {t : AA} (ht : RA Z ta t) : RN Z (tCall (SpA m asp) [] E0 ta) (aCall ea0 m asp t) := fun B hB F al s σ H Q A X h q =>
  ht B hB F al s σ H _ _ X h fun ws s1 F1 al1 H1 vs x1 X1 wvs h1 => by
    obtain ⟨G', Y, k⟩ := X1.frame
    refine ⟨⟨G', F1, al1, s1.st.length⟩, ws, s1.st, _, ea0, Y, rfl, by rw [List.append_nil]; exact wvs, h1.1, h1.2, fun n st' F' al' H' v z Y' nv => ?_, fun C fs st' z => z.elim⟩
    obtain ⟨ex, X2, k2⟩ := k F' al' st' H' Y'
    exact q n ⟨s1.env, st'⟩ F' al' H' v (x1.trans ex) X2 (k2 n v nv) z
theorem SpA.len {m : Nat} {asp : ASp} {vs : List V} {Q : VK} {E : XK} (h : SpA m asp vs H Q E) : vs.length = m := by
  obtain ⟨B, ws, st, A, Ea, _, _, wvs, hm, _⟩ := h
  rw [← Paired.len wvs]; exact hm
def aFn (m : Nat) (ab : XA → ASt) : ASp := fun ws st A Ea => ab Ea ⟨fun s => A (.w (.d .non)) s.st, A, fun _ => False, fun _ => False⟩ ⟨ws.map Sl.v ++ List.replicate (m - ws.length) .no, st⟩
theorem Paired.getE {α β : Type} {P : α → β → Prop} : ∀ {xs : List α} {ys : List β} {i : Nat} {x : α}, Paired P xs ys → xs[i]? = some x → ∃ y, ys[i]? = some y ∧ P x y
  | _, _, _, _, .nil, e => by simp at e
  | _, _, 0, _, .cons r _, e => by simp at e; subst e; exact ⟨_, rfl, r⟩
  | _, _, i + 1, _, .cons _ t, e => by simpa using Paired.getE (i := i) t (by simpa using e)
theorem fn_read {N : List Str} {m : Nat} {asp : ASp} {vs : List V} {Q : VK} {E : XK} {t : TS} {ab : XA → ASt} (hR : ∀ ea, RS ⟨E, ea⟩ t (ab ea)) (red : ∀ ws st A Ea, ws.length = m → asp ws st A Ea → aFn N.length ab ws st A Ea)
    (h : SpA m asp vs H Q E) : t ⟨fun _ H' => Q .non H', Q, fun _ _ => False, fun _ _ => False⟩ (start N vs) H := by
  obtain ⟨B, ws, st, A, Ea, X, hL, wvs, hm, hs, kA, kE⟩ := h
  have hl : vs.length = ws.length := (Paired.len wvs).symm
  have hred := red ws st A Ea hm hs
  unfold aFn at hred
  refine hR Ea B kE _ _ ?_ B.F B.al ⟨ws.map Sl.v ++ List.replicate (N.length - ws.length) .no, st⟩ _ H ?_ hred
  · exact ⟨fun F' al' s' σ' H' X' h' => kA _ _ F' al' H' _ h' X'.toRelS Dv.non, fun F' al' st' H' n v X' nv h' => kA n st' F' al' H' v h' X' nv, fun _ _ _ _ _ _ h => h.elim, fun _ _ _ _ _ _ h => h.elim⟩
  · unfold L2.start
    rw [hl]
    refine ⟨X, by simp [hl], fun j w e => ?_, fun j c e => ?_⟩
    · have e : (ws.map Sl.v ++ List.replicate (N.length - ws.length) .no)[j]? = some (.v w) := e
      by_cases hj : j < ws.length
      · rw [List.getElem?_append_left (by rw [List.length_map]; exact hj), List.getElem?_map] at e
        cases z : ws[j]? with
        | none => rw [z] at e; cases e
        | some w' =>
          rw [z] at e
          cases e
          obtain ⟨v, h1, h2⟩ := Paired.getE wvs z
          refine ⟨v, ?_, h2⟩
          rw [List.getElem?_append_left (by rw [List.length_map, hl]; exact hj), List.getElem?_map, h1]; rfl
      · rw [List.getElem?_append_right (by rw [List.length_map]; omega)] at e
        have := List.mem_of_getElem? e
        have := List.eq_of_mem_replicate this
        cases this
    · have e : (ws.map Sl.v ++ List.replicate (N.length - ws.length) .no)[j]? = some (.own c) := e
      by_cases hj : j < ws.length
      · rw [List.getElem?_append_left (by rw [List.length_map]; exact hj), List.getElem?_map] at e
        cases z : ws[j]? with
        | none => rw [z] at e; cases e
        | some w' => rw [z] at e; cases e
      · rw [List.getElem?_append_right (by rw [List.length_map]; omega)] at e
        have := List.mem_of_getElem? e
        have := List.eq_of_mem_replicate this
        cases this
/-! ### rules for loops -/
theorem forGo_ind {t : Tgt} {b : ASt} {N : AEnds} (I : List D → AS → Prop) (hnil : ∀ s, I [] s → N.nx s)
    (hcons : ∀ d ds s (k : AS → Prop), (∀ s, I ds s → k s) → I (d :: ds) s → match bindT t d s.env with | some env' => b ⟨k, N.rt, N.nx, k⟩ ⟨env', s.st⟩ | none => False) : ∀ ds s, I ds s → forGo t b N ds s
  | [], s, h => hnil s h
  | d :: ds, s, h => by
    unfold forGo
    exact hcons d ds s _ (forGo_ind I hnil hcons ds) h
theorem while_ind {c : AT} {b : ASt} {N : AEnds} (I : Nat → AS → Prop)
    (step : ∀ m s (k : AS → Prop), (∀ m' s, m' < m → I m' s → k s) → I m s → c s fun b' s1 => if b' = true then b ⟨k, N.rt, N.nx, k⟩ s1 else N.nx s1) (m : Nat) (s : AS) (h : I m s) : aWhile c b N s := by
  refine ⟨m + 1, ?_⟩
  have : ∀ n m s, m < n → I m s → whN c b N n s := by
    intro n
    induction n with
    | zero => intro m s hm; omega
    | succ n ih =>
      intro m s hm h
      unfold whN
      exact step m s _ (fun m' s' hm' h' => ih m' s' (by omega) h') h
  exact this (m + 1) m s (Nat.lt_succ_self m) h
theorem lcGo_ind {t : Tgt} {c : AT} {e : AE} {vs : List Nat} {k : List D → AS → Prop} (I : List D → AS → List D → Prop) (hnil : ∀ s acc, I [] s acc → k acc s)
    (hcons : ∀ d ds s acc (k' : AS → List D → Prop), (∀ s acc, I ds s acc → k' s acc) → I (d :: ds) s acc → match bindT t d s.env with
      | some env' => c ⟨env', s.st⟩ fun b s1 => if b = true then e s1 fun r s2 => toW r s2 fun w s3 => match w with
          | .d x => acc.length < sizeLine ∧ k' ⟨wipeE s3.env vs, s3.st⟩ (acc ++ [x])
          | _ => False
        else k' ⟨wipeE s1.env vs, s1.st⟩ acc
      | none => False) : ∀ ds s acc, I ds s acc → lcGo t c e vs k ds s acc
  | [], s, acc, h => hnil s acc h
  | d :: ds, s, acc, h => by
    unfold lcGo
    exact hcons d ds s acc _ (lcGo_ind I hnil hcons ds) h
def gather (f : D → Bool) (g : D → D) (ds : List D) : List D := (ds.filter f).map g
/-- a comprehension that changes nothing -/
theorem lcGo_pure {t : Tgt} {c : AT} {e : AE} {vs : List Nat} {k : List D → AS → Prop} {E0 : List Sl} {st : List Cell} {ds0 : List D} (f : D → Bool) (g : D → D) (hl : ds0.length ≤ 100000)
    (h : ∀ d ∈ ds0, ∃ env', bindT t d E0 = some env' ∧ wipeE env' vs = E0 ∧ (∀ A : Bool → AS → Prop, A (f d) ⟨env', st⟩ → c ⟨env', st⟩ A) ∧ (f d = true → ∀ A : R → AS → Prop, A (.w (.d (g d))) ⟨env', st⟩ → e ⟨env', st⟩ A))
    (hk : k (gather f g ds0) ⟨E0, st⟩) : lcGo t c e vs k ds0 ⟨E0, st⟩ [] := by
  refine lcGo_ind (fun ds s acc => s = ⟨E0, st⟩ ∧ ∃ pre, ds0 = pre ++ ds ∧ acc = gather f g pre) ?_ ?_ ds0 _ _ ⟨rfl, [], rfl, rfl⟩
  · rintro s acc ⟨rfl, pre, e1, rfl⟩
    rw [List.append_nil] at e1
    rw [← e1]; exact hk
  · rintro d ds s acc k' hk' ⟨rfl, pre, e1, rfl⟩
    obtain ⟨env', h1, h2, h3, h4⟩ := h d (by rw [e1]; simp)
    simp only [h1]
    have e2 : ds0 = (pre ++ [d]) ++ ds := by rw [e1]; simp
    refine h3 _ ?_
    cases hf : f d with
    | false =>
      rw [if_neg (by decide), h2]
      refine hk' _ _ ⟨rfl, _, e2, ?_⟩
      unfold gather
      rw [List.filter_append, List.filter_cons, if_neg (by rw [hf]; decide)]
      simp
    | true =>
      rw [if_pos rfl]
      refine h4 hf _ ?_
      simp only [toW]
      refine ⟨?_, ?_⟩
      · have : (gather f g pre).length ≤ pre.length := by unfold gather; rw [List.length_map]; exact List.length_filter_le _ _
        have h5 : pre.length ≤ ds0.length := by rw [e1, List.length_append]; omega
        exact Nat.lt_of_le_of_lt (Nat.le_trans this (Nat.le_trans h5 hl)) (by decide)
      · rw [h2]
        refine hk' _ _ ⟨rfl, _, e2, ?_⟩
        unfold gather
        rw [List.filter_append, List.filter_cons, if_pos hf, List.map_append]
        rfl
theorem at0 {α : Type} {a : α} {l : List α} : atI (a :: l) 0 = some a := by
  unfold atI ixN
  rw [if_pos (by decide), if_pos (by rw [List.length_cons]; omega)]; rfl
theorem at1 {α : Type} {a b : α} {l : List α} : atI (a :: b :: l) 1 = some b := by
  unfold atI ixN
  rw [if_pos (by decide), if_pos (by rw [List.length_cons, List.length_cons]; omega)]; rfl
theorem at2 {α : Type} {a b c : α} {l : List α} : atI (a :: b :: c :: l) 2 = some c := by
  unfold atI ixN
  rw [if_pos (by decide), if_pos (by rw [List.length_cons, List.length_cons, List.length_cons]; omega)]; rfl
theorem at3 {α : Type} {a b c d : α} {l : List α} : atI (a :: b :: c :: d :: l) 3 = some d := by
  unfold atI ixN
  rw [if_pos (by decide), if_pos (by rw [List.length_cons, List.length_cons, List.length_cons, List.length_cons]; omega)]; rfl
theorem ix0 {n : Nat} : ixN (n + 1) 0 = some 0 := by
  unfold ixN
  rw [if_pos (by decide), if_pos (by omega)]; rfl
theorem ix1 {n : Nat} : ixN (n + 1 + 1) 1 = some 1 := by
  unfold ixN
  rw [if_pos (by decide), if_pos (by omega)]; rfl
theorem ix2 {n : Nat} : ixN (n + 1 + 1 + 1) 2 = some 2 := by
  unfold ixN
  rw [if_pos (by decide), if_pos (by omega)]; rfl
/-! ### equations for the walk -/
theorem okD_nil : okD (.lst []) = true := by decide
theorem okD_str {x : Str} : okD (.str x) = true := rfl
theorem okD_int {x : Int} : okD (.int x) = true := rfl
theorem okD_bl {x : Bool} : okD (.bl x) = true := rfl
theorem okD_non : okD .non = true := rfl
section
variable {env : List Sl} {w : W} {c : Cell} {k : W → AS → Prop}
theorem q_peek_w : peek s (.w w) = peekW s w := rfl
theorem q_peek_s : peek ⟨env, st⟩ (.sl i) = (match env[i]? with
    | some (.own c) => cellD c
    | some (.v w) => peekW ⟨env, st⟩ w
    | _ => none) := rfl
theorem q_peekW_d : peekW s (.d x) = some x := rfl
theorem q_peekW_loc : peekW ⟨env, st⟩ (.loc n) = (match st[n]? with
    | some c => cellD c
    | none => none) := rfl
theorem q_cellD_lst {ds : List D} : cellD (.lst ds) = some (.lst ds) := rfl
theorem q_cellD_dic {kvs : List (Key × D)} : cellD (.dic kvs) = some (.dic (kvs.map fun kv => kD kv.1) (kvs.map (·.2))) := rfl
theorem q_toW_w : toW (.w w) s k = k w s := rfl
theorem q_toW_s : toW (.sl i) ⟨env, st⟩ k = (match env[i]? with
    | some (.v w) => k w ⟨env, st⟩
    | some (.own c) => match cellD c with
      | some x => k (.d x) ⟨env.set i (.v (.d x)), st⟩
      | none => k (.loc st.length) ⟨env.set i (.v (.loc st.length)), st ++ [c]⟩
    | _ => False) := rfl
theorem q_toL_w : toL (.w w) s k = k w s := rfl
theorem q_toL_s : toL (.sl i) ⟨env, st⟩ k = (match env[i]? with
    | some (.v w) => k w ⟨env, st⟩
    | some (.own c) => k (.loc st.length) ⟨env.set i (.v (.loc st.length)), st ++ [c]⟩
    | _ => False) := rfl
theorem q_nToW_w : nToW (.w w) s k = k w s := rfl
theorem q_nToW_lst {ds : List D} : nToW (.new (.lst ds)) s k = k (.d (.lst ds)) s := rfl
theorem q_nToW_dic {kvs : List (Key × D)} : nToW (.new (.dic kvs)) s k = k (.d (.dic (kvs.map fun kv => kD kv.1) (kvs.map (·.2)))) s := rfl
theorem q_put_w : Zi.put i (.w w) s = ⟨s.env.set i (.v w), s.st⟩ := rfl
theorem q_put_n : Zi.put i (.new c) s = ⟨s.env.set i (.own c), s.st⟩ := rfl
theorem q_getC_loc : getC ⟨env, st⟩ (.w (.loc n)) = st[n]? := rfl
theorem q_getC_s : getC ⟨env, st⟩ (.sl i) = (match env[i]? with
    | some (.own c) => some c
    | some (.v (.loc n)) => st[n]?
    | _ => none) := rfl
theorem q_putC_loc : putC ⟨env, st⟩ (.w (.loc n)) c = ⟨env, st.set n c⟩ := rfl
theorem q_putC_s : putC ⟨env, st⟩ (.sl i) c = (match env[i]? with
    | some (.own _) => ⟨env.set i (.own c), st⟩
    | some (.v (.loc n)) => ⟨env, st.set n c⟩
    | _ => ⟨env, st⟩) := rfl
end
end
end Zi

set_option Elab.async false
set_option linter.all false
set_option maxRecDepth 100000
set_option maxHeartbeats 2000000
/-! Zs: sets of scannable keys of any kind, with what is in them; sorted of them. -/
namespace Zs
open PySem PySem.Spec PyProof.Rows L2 Ly
section
variable {κ : Type} [DecidableEq κ] {P : Program} {w : World}
/-- an entry is the key -/
def EK (knd : PySem.KeyKind P w κ) (e : Int × Value) (k : κ) : Prop := knd.is k e.2 = true ∧ e.1 = knd.hash k ∧ e.2.scannable = true
/-- the set at a has just the keys of L -/
def SetG (knd : PySem.KeyKind P w κ) (h : Heap) (a : Addr) (L : List κ) : Prop := L.Nodup ∧ ∃ (o : Obj) (es : Array (Int × Value)) (ep : Nat) (t : SetTable) (ks : List κ),
  h.get? a = some o ∧ o.ExactSet ∧ o.data = .set es ep t ∧ Paired (EK knd) es.toList ks ∧ ks.Perm L ∧ es.size < scanBound ∧ t.fits es.size = true ∧ Ris t.place.toList ∧ (w.params.followText "set-order" = true ∨ t.led = true)
variable {knd : PySem.KeyKind P w κ} {h h' : Heap} {a : Addr} {L : List κ} {A : Around} {E : Value → Shared → Prop} {s : Shared}
theorem SetG.at (R : SetG knd h a L) (k : ∀ o, h.get? a = some o → h'.get? a = some o) : SetG knd h' a L := by
  obtain ⟨nd, o, es, ep, t, ks, eo, r⟩ := R
  exact ⟨nd, o, es, ep, t, ks, k o eo, r⟩
theorem SetG.perm {L' : List κ} (R : SetG knd h a L) (p : L.Perm L') : SetG knd h a L' := by
  obtain ⟨nd, o, es, ep, t, ks, eo, xo, dd, pe, pm, r⟩ := R
  exact ⟨p.nodup_iff.mp nd, o, es, ep, t, ks, eo, xo, dd, pe, pm.trans p, r⟩
theorem pkey : ∀ {es : List (Int × Value)} {ks : List κ}, Paired (EK knd) es ks → ElemsOf knd es
  | _, _, .nil => fun e he => by cases he
  | _, _, .cons x t => fun e he => by
    rcases List.mem_cons.mp he with z | z
    · rw [z]; exact ⟨⟨_, x.1, x.2.1⟩, x.2.2⟩
    · exact pkey t e z
theorem pmem : ∀ {es : List (Int × Value)} {ks : List κ} {k : κ}, Paired (EK knd) es ks → (k ∈ ks ↔ ∃ e ∈ es, knd.is k e.2 = true)
  | _, _, k, .nil => by simp
  | _, _, k, .cons (a := e) (b := k') x t => by
    have ih := pmem (k := k) t
    rw [List.mem_cons, ih]
    constructor
    · rintro (rfl | ⟨e', he, q⟩)
      · exact ⟨e, List.mem_cons_self, x.1⟩
      · exact ⟨e', List.mem_cons_of_mem _ he, q⟩
    · rintro ⟨e', he, q⟩
      rcases List.mem_cons.mp he with z | z
      · rw [z] at q; exact .inl (knd.inj _ _ _ q x.1)
      · exact .inr ⟨e', z, q⟩
theorem pperm : ∀ {es es' : List (Int × Value)} {ks : List κ}, es'.Perm es → Paired (EK knd) es ks → ∃ ks', Paired (EK knd) es' ks' ∧ ks'.Perm ks := by
  intro es es' ks p
  induction p generalizing ks with
  | nil => intro x; exact ⟨ks, x, List.Perm.refl _⟩
  | cons e p ih =>
    intro x
    cases x with | cons x1 x2 => ?_
    obtain ⟨ks', y1, y2⟩ := ih x2
    exact ⟨_, .cons x1 y1, y2.cons _⟩
  | swap e e' l =>
    intro x
    cases x with | cons x1 x2 => ?_
    cases x2 with | cons x2 x3 => ?_
    exact ⟨_, .cons x2 (.cons x1 x3), List.Perm.swap _ _ _⟩
  | trans p q ih1 ih2 =>
    intro x
    obtain ⟨k1, y1, y2⟩ := ih2 x
    obtain ⟨k2, z1, z2⟩ := ih1 y1
    exact ⟨k2, z1, z2.trans y2⟩
theorem plen {es : List (Int × Value)} {ks : List κ} (x : Paired (EK knd) es ks) : es.length = ks.length := Zi.Paired.len x
/-- behind the table's change -/
theorem add_end {g : Bool → Sem Unit} (gOk : ∀ (b : Bool) (u : Shared) (Q' : Unit → Shared → Prop), Q' () u → wpAny (model P w) A (g b) Q' E u)
    {o : Obj} {es : Array (Int × Value)} {ep : Nat} {t : SetTable} (eo : s.heap.get? a = some o) (xo : o.ExactSet) (dd : o.data = .set es ep t)
    {es1 : Array (Int × Value)} {t2 : SetTable} (b1 : es1.size < scanBound) (f2 : t2.fits es1.size = true) (r2 : Ris t2.place.toList) (l2 : w.params.followText "set-order" = true ∨ t2.led = true) {wd : Bool} {R : Option Bool → Shared → Prop}
    (hR : ∀ (h' : Heap) (o' : Obj) (es' : Array (Int × Value)) (ep' : Nat) (t' : SetTable), Heap.SameBut a s.heap h' → h'.get? a = some o' → o'.ExactSet → o'.data = .set es' ep' t' → es'.toList.Perm es1.toList → t'.fits es'.size = true → Ris t'.place.toList →
      (w.params.followText "set-order" = true ∨ t'.led = true) → R (some true) { s with heap := h' }) :
    wpAny (model P w) A (do
        storeSet a es1 t2
        if (!wd && t2.tooFull) = true then do
            g (relayAll t2 es1 (SetTable.grown es1.size)).2.2
            storeSet a (relayAll t2 es1 (SetTable.grown es1.size)).1 (relayAll t2 es1 (SetTable.grown es1.size)).2.1
            pure (some true)
          else pure (some true)) R E s := by
  refine wpAny_bind (wpAny_storeSet_of eo dd ?_ (fits_of_scanBound b1))
  have eo1 := store_at (es' := es1) (t' := t2) eo dd
  have sb := Heap.SameBut.update s.heap a (Obj.putSet es1 t2)
  split
  · have pm := relayAll_perm t2 es1 (SetTable.grown es1.size)
    have f3 := relayAll_fits t2 es1 (SetTable.grown es1.size)
    have r3 := relayAll_ris t2 es1 (SetTable.grown es1.size)
    have l3 := relayAll_led t2 es1 (SetTable.grown es1.size)
    generalize relayAll t2 es1 (SetTable.grown es1.size) = Y at pm f3 r3 l3 ⊢
    obtain ⟨es2, t3, gv⟩ := Y
    dsimp only at pm f3 r3 l3 ⊢
    have sz : es2.size = es1.size := by rw [← Array.length_toList, pm.length_eq, Array.length_toList]
    refine wpAny_bind (gOk _ _ _ ?_)
    refine wpAny_bind (wpAny_storeSet_of eo1 rfl ?_ (fits_of_scanBound (by rw [sz]; exact b1)))
    have eo2 := store_at (es' := es2) (t' := t3) eo1 rfl
    refine wpAny_pure (hR _ _ es2 _ t3 (sb.trans (Heap.SameBut.update _ a _)) eo2 xo rfl pm f3 r3 (l2.imp id fun z => by rw [l3]; exact z))
  · exact wpAny_pure (hR _ _ es1 _ t2 sb eo1 xo rfl (List.Perm.refl _) f2 r2 l2)
/-- L with k, where it isn't there -/
def plus (L : List κ) (k : κ) : List κ := if k ∈ L then L else k :: L
theorem add_hashed {k : κ} {v : Value} {Q : Bool → Shared → Prop} (kv : knd.is k v = true) (sc : v.scannable = true) (R : SetG knd s.heap a L) (room : L.length + 1 < scanBound)
    (hQ : ∀ b h', Heap.SameBut a s.heap h' → SetG knd h' a (plus L k) → Q b { s with heap := h' }) : wpAny (model P w) A (setAddHashed a v (knd.hash k)) Q E s := by
  obtain ⟨nd, o, es, ep, t, ks, eo, xo, dd, pe, pm, sb, fi, ri, le⟩ := R
  have el : ElemsOf knd es.toList := pkey pe
  unfold setAddHashed setAddHashedIn
  refine wpAny_holding (wpAny_bind (wpAny_setState_of eo dd fi ?_))
  dsimp only
  rw [byScan_of sc sb el]
  simp only [↓reduceIte]
  unfold setAddByScan
  refine wpAny_bind (wpAny_bind (wpAny_rule ?_))
  refine wpAny_bind (wpAny_setScan_of kv eo dd fi el ?_)
  cases fx : List.findIdx? (fun e => knd.is k e.2) es.toList with
  | some j =>
    dsimp only
    obtain ⟨hj, pj, _⟩ := List.findIdx?_eq_some_iff_getElem.mp fx
    have kin : k ∈ L := pm.mem_iff.mp ((pmem pe).mpr ⟨_, List.getElem_mem hj, pj⟩)
    refine wpAny_pure (wpAny_pure (hQ _ s.heap (Heap.SameBut.refl a s.heap) ?_))
    unfold plus
    rw [if_pos kin]
    exact ⟨nd, o, es, ep, t, ks, eo, xo, dd, pe, pm, sb, fi, ri, le⟩
  | none =>
    dsimp only
    have kout : k ∉ L := fun z => by
      obtain ⟨e, he, q⟩ := (pmem pe).mp (pm.mem_iff.mpr z)
      have := List.findIdx?_eq_none_iff.mp fx e he
      rw [q] at this; cases this
    have gw : ∀ (b : Bool) {u : Shared} {Q' : Unit → Shared → Prop}, Q' () u → wpAny (model P w) A (match b with | true => rule "set.scan.the-table-gave-way" | false => pure ()) Q' E u :=
      fun b u Q' q => by cases b <;> first | exact wpAny_pure q | exact wpAny_rule q
    have pn := layNew_perm t es (knd.hash k) v
    have f1 := layNew_fits t es (knd.hash k) v
    have r1 := layNew_ris t es (knd.hash k) v ri
    have l1 := layNew_led t es (knd.hash k) v
    generalize layNew t es (knd.hash k) v = Y at pn f1 r1 l1 ⊢
    obtain ⟨es1, t1, wd, gv⟩ := Y
    dsimp only at pn f1 r1 l1 ⊢
    rw [Array.toList_push] at pn
    have pc : es1.toList.Perm ((knd.hash k, v) :: es.toList) := pn.trans (List.perm_append_singleton _ _)
    have sz : es1.size = es.size + 1 := by rw [← Array.length_toList, pc.length_eq, List.length_cons, Array.length_toList]
    have esz : es.size = L.length := by rw [← Array.length_toList, plen pe, pm.length_eq]
    have b1 : es1.size < scanBound := by rw [sz, esz]; exact room
    have le1 : w.params.followText "set-order" = true ∨ t1.led = true := le.imp id fun z => by rw [l1]; exact z
    have fin : ∀ (h' : Heap) (o' : Obj) (es' : Array (Int × Value)) (ep' : Nat) (t' : SetTable), Heap.SameBut a s.heap h' → h'.get? a = some o' → o'.ExactSet → o'.data = .set es' ep' t' → es'.toList.Perm es1.toList → t'.fits es'.size = true → Ris t'.place.toList →
        (w.params.followText "set-order" = true ∨ t'.led = true) → Q true { s with heap := h' } := fun h' o' es' ep' t' q1 q2 q3 q4 q5 q6 q7 q8 => by
      obtain ⟨ks', y1, y2⟩ := pperm (q5.trans pc) (.cons (b := k) ⟨kv, rfl, sc⟩ pe)
      refine hQ _ h' q1 ?_
      unfold plus
      rw [if_neg kout]
      refine ⟨List.nodup_cons.mpr ⟨kout, nd⟩, o', es', ep', t', ks', q2, q3, q4, y1, y2.trans (pm.cons _), ?_, q6, q7, q8⟩
      rw [← Array.length_toList, q5.length_eq, Array.length_toList]; exact b1
    refine wpAny_bind (gw _ ?_)
    split
    · refine wpAny_bind ?_
      rw [hashByValue_scannable 8 sc]
      refine wpAny_pure ?_
      refine add_end (fun b u Q' q => ?_) eo xo dd b1 ?_ ?_ ?_ ?_
      · cases b <;> first | exact wpAny_pure q | exact wpAny_rule q
      · first | (split <;> first | exact f1 | exact SetTable.fits_plain_off f1) | exact f1
      · first | (split <;> exact r1) | exact r1
      · first | (split <;> exact le1) | exact le1
      · intro h' o' es' ep' t' q1 q2 q3 q4 q5 q6 q7 q8; dsimp only; exact wpAny_pure (fin h' o' es' ep' t' q1 q2 q3 q4 q5 q6 q7 q8)
    · refine wpAny_bind (wpAny_pure ?_)
      simp only [↓reduceIte]
      refine add_end (fun b u Q' q => ?_) eo xo dd b1 f1 r1 le1 ?_
      · cases b <;> first | exact wpAny_pure q | exact wpAny_rule q
      · intro h' o' es' ep' t' q1 q2 q3 q4 q5 q6 q7 q8; dsimp only; exact wpAny_pure (fin h' o' es' ep' t' q1 q2 q3 q4 q5 q6 q7 q8)
theorem SetG.typeIs (R : SetG knd s.heap a L) : s.TypeIs (.ref a) "set" := by
  obtain ⟨nd, o, es, ep, t, ks, eo, xo, _⟩ := R
  exact ⟨o, eo, xo.1⟩
theorem add_at {k : κ} {v : Value} {Q : Value → Shared → Prop} (kv : knd.is k v = true) (sc : v.scannable = true) (R : SetG knd s.heap a L) (room : L.length + 1 < scanBound)
    (hQ : ∀ h', Heap.SameBut a s.heap h' → SetG knd h' a (plus L k) → Q .none { s with heap := h', toks := s.toks + 1 }) : wpAny (model P w) A (call (.builtin "set.add") [.ref a, v]) Q E s := by
  refine wpAny_call_entry F.slot_set_add R.typeIs F.entry_set_add ?_ (F.args_set_add_2 _ _)
  unfold Builtin.«set.add» Builtin.Frozenset.oneOther
  simp only [List.isEmpty_nil, bind_assoc]
  unfold Builtin.Frozenset.addrOf setAdd
  refine wpAny_bind (wpAny_pure ?_)
  try dsimp only
  refine wpAny_bind (wpAny_pure ?_)
  try dsimp only
  refine wpAny_bind (wpAny_holding ?_)
  refine wpAny_bind (knd.pyHash kv ?_)
  refine add_hashed (s := { s with toks := s.toks + 1 }) kv sc R room fun b h' q1 q2 => ?_
  show wpAny _ _ (ret Value.none) _ _ _
  exact wpAny_pure ⟨_, rfl, hQ h' q1 q2⟩
end
end Zs

set_option Elab.async false
set_option linter.all false
set_option maxRecDepth 100000
set_option maxHeartbeats 2000000
/-! Zu: comprehensions of sets, dicts, of two clauses; sorted of lists and sets; the least of a list. -/
namespace Zs
open PySem PySem.Spec PyProof.Rows L2 Ly Lc
section
variable {X : Cx} {tg iter : Expr} {ifs : List Expr} {gs : List Comprehension} {sc : Scope} {own : List (Str × Nat)} {pos : Pos} {wi : TI} {g : TG} {tt : TT} {t : Addr → TCl} {vs' : List Nat}
theorem pe_comp (kd : Kd) {newAcc : Sem Value} {o0 : Obj} {ho : Addr → HO} (ev : eval (kd.expr (⟨tg, iter, ifs, 0⟩ :: gs) sc pos) X.env = comprehension (kd.expr (⟨tg, iter, ifs, 0⟩ :: gs) sc pos) sc X.env (firstIterPos (⟨tg, iter, ifs, 0⟩ :: gs) pos) newAcc false (eval iter X.env))
    (hc : X.calm = true) (hN : X.N.Nodup) (ha : ∀ g' ∈ (⟨tg, iter, ifs, 0⟩ :: gs : List Comprehension), g'.is_async = 0) (hi : PI X tg iter wi) (ok : BlkOk X.N X.env.scope sc own)
    (hnew : ∀ (s : Shared) (E : Value → Shared → Prop) (Q : Value → Shared → Prop), Q (.ref s.heap.objs.size) { s with heap := s.heap.push o0 } → wpAny (model X.prog X.w) X.A newAcc Q E s)
    (hobj : ∀ (H : Hp) (h : Heap), ObjOk X.prog X.w (upd H h.objs.size (ho h.objs.size)) (h.push o0) h.objs.size (ho h.objs.size))
    (hg : ∀ (s : Shared) (H : Hp) (C : Addr) (cl : List (Str × Addr)) (fp : List Addr), PG (X.blk s H sc (compEnvC sc cl C X.env) fp) tg g)
    (ht : ∀ (s : Shared) (H : Hp) (C : Addr) (cl : List (Str × Addr)) (fp : List Addr), PTs (X.blk s H sc (compEnvC sc cl C X.env) fp) ifs tt)
    (hin : ∀ (s : Shared) (H : Hp) (C : Addr) (cl : List (Str × Addr)) (fp : List Addr) (D : Addr), InnerOk (X.blk s H sc (compEnvC sc cl C X.env) fp) kd (⟨tg, iter, ifs, 0⟩ :: gs) sc pos D 1 vs' (t D))
    (hsub : ∀ i ∈ vs', i ∈ own.map (·.2)) (hs : ∀ x, foldedSetIterable iter X.env x = pure x := by intro _; rfl) :
    PE X (kd.expr (⟨tg, iter, ifs, 0⟩ :: gs) sc pos) (tComp wi g tt t (own.map (·.2)) ho) := by
  refine ⟨fun pins s σ H Q I h => ?_⟩
  rw [ev]
  refine comp_core hc hN rfl ha I hi ok hnew hobj hg ht hin hsub hs h fun D C s' m H' I' q hn f => ⟨m, hn, fun h'' sb => ?_⟩
  obtain ⟨f0, f1, f2, f3, f4, f5⟩ := f
  exact ⟨.ref D, H', I'.turned (t' := s'.toks) (fun b o hb e => (sb.2 b hb).trans e) f0 f1 f3 f4 f5, rfl, q⟩
/-! ### sets of ints and texts with what is in them -/
def SetL (P : Program) (w : World) (L : List Key) (a : Addr) : HO := .ext fun h => SetG (mixKind P w) h a L
theorem setL_ok {P : Program} {w : World} {H : Hp} {h : Heap} {a : Addr} {L : List Key} (R : SetG (mixKind P w) h a L) : ObjOk P w H h a (SetL P w L a) := by
  obtain ⟨_, o, _, _, _, _, eo, _⟩ := id R
  exact ⟨R, ⟨o, eo⟩, fun _ _ p k => SetG.at p k⟩
theorem setL_at {pins : List (Addr × Obj)} {σ : L2.St} {H : Hp} {s : Shared} {a : Addr} {L : List Key} (I : Inv X pins σ H s) (e : H a = some (SetL X.prog X.w L a)) : SetG (mixKind X.prog X.w) s.heap a L := (I.hok a _ e).1
/-- what the new set asks of what is put to it -/
def rPut (P : Program) (w : World) (D : Addr) : V → Hp → (Hp → Prop) → Prop := fun y H Nx => ∃ (k : Key) (L : List Key), y = kV k ∧ H D = some (SetL P w L D) ∧ L.length + 1 < scanBound ∧ Nx (upd H D (SetL P w (plus L k) D))
theorem put_ok {D : Addr} : AddR X D (rPut X.prog X.w D) := by
  intro pins s σ H y v Nx I r h
  obtain ⟨k, L, rfl, ed, room, n⟩ := h
  refine add_at (kV_is r) (key_scan r) (setL_at I ed) room fun h' sb new => ?_
  obtain ⟨_, o, _, _, _, _, eo, _⟩ := id new
  exact ⟨_, I.write (e := D) (t' := s.toks + 1) (by rw [ed]; trivial) (.inl rfl) (fun b u hb hu => (sb.2 b hb).trans hu) ⟨o, eo⟩ (setL_ok new), n⟩
theorem newSet_at {P : Program} {w : World} {A : Around} {E : Value → Shared → Prop} {s : Shared} {Q : Value → Shared → Prop} (h : Q (.ref s.heap.objs.size) { s with heap := s.heap.push { cls := .type "set", dict := none, data := .set #[] 0 (.fresh 0 0 (!w.params.followText "set-order")) } }) :
    wpAny (model P w) A (newSet (.type "set")) Q E s := wpAny_newSet_raw fun led e => by subst e; exact h
theorem fresh_ok {P : Program} {w : World} (h : Heap) : SetG (mixKind P w) (h.push { cls := .type "set", dict := none, data := .set #[] 0 (.fresh 0 0 (!w.params.followText "set-order")) }) h.objs.size [] := by
  refine ⟨List.nodup_nil, _, #[], 0, _, [], Heap.get?_push_size _ rfl, ⟨rfl, rfl, rfl⟩, rfl, .nil, List.Perm.refl _, by decide, by rfl, ?_, ?_⟩
  · exact List.Pairwise.nil
  · show _ ∨ (!w.params.followText "set-order") = true
    cases z : w.params.followText "set-order" with
    | false => exact .inr rfl
    | true => exact .inl rfl
/-! ### sorted -/
theorem each_perm {α β : Type} {R : α → β → Prop} : ∀ {us vs : List α} {ks : List β}, vs.Perm us → PySem.W.EachIs R us ks → ∃ ks', PySem.W.EachIs R vs ks' ∧ ks'.Perm ks := by
  intro us vs ks p
  induction p generalizing ks with
  | nil => intro x; exact ⟨ks, x, List.Perm.refl _⟩
  | cons e p ih =>
    intro x
    cases x with | cons x1 x2 => ?_
    obtain ⟨ks', y1, y2⟩ := ih x2
    exact ⟨_, .cons x1 y1, y2.cons _⟩
  | swap e e' l =>
    intro x
    cases x with | cons x1 x2 => ?_
    cases x2 with | cons x2 x3 => ?_
    exact ⟨_, .cons x2 (.cons x1 x3), List.Perm.swap _ _ _⟩
  | trans p q ih1 ih2 =>
    intro x
    obtain ⟨k1, y1, y2⟩ := ih2 x
    obtain ⟨k2, z1, z2⟩ := ih1 y1
    exact ⟨k2, z1, z2.trans y2⟩
def kPy : Key → PyData
  | .inl i => .int i
  | .inr s => .str s
theorem kPy_reads {h : Heap} {k : Key} {v : Value} (e : keyIs k v = true) : Reads h v (kPy k) [] := by
  rcases keyIs_shape e with ⟨i, t, rfl, rfl⟩ | ⟨x, t, rfl, rfl⟩
  · exact .int _ _
  · exact .str _ _
theorem each_of {P : Program} {w : World} : ∀ {es : List (Int × Value)} {ks : List Key}, Paired (EK (mixKind P w)) es ks → PySem.W.EachIs (fun v k => keyIs k v = true) (es.map (·.2)) ks
  | _, _, .nil => .nil
  | _, _, .cons x t => .cons x.1 (each_of t)
theorem rel_of_is {k : Key} {v : Value} (e : keyIs k v = true) : RelV (kV k) v := by
  rcases keyIs_shape e with ⟨i, t, rfl, rfl⟩ | ⟨x, t, rfl, rfl⟩
  · exact ⟨t, rfl⟩
  · exact ⟨t, rfl⟩
theorem vals_each : ∀ {us : List Value} {ks : List Key}, PySem.W.EachIs (fun v k => keyIs k v = true) us ks → Vals (ks.map kV) us
  | _, _, .nil => .nil
  | _, _, .cons x t => .cons (rel_of_is x) (vals_each t)
theorem each_length {α β : Type} {R : α → β → Prop} : ∀ {us : List α} {ks : List β}, PySem.W.EachIs R us ks → us.length = ks.length
  | _, _, .nil => rfl
  | _, _, .cons _ t => by rw [List.length_cons, List.length_cons, each_length t]
/-- sorted(s), s a set of ints or of texts -/
def rSortSet (P : Program) (w : World) : List V → Hp → VK → Prop := fun xs H Q => ∃ (a : Addr) (L : List Key), xs = [.ref a] ∧ H a = some (SetL P w L a) ∧ L.length ≤ 100000 ∧ PySem.W.AllAlike (L.map kPy) ∧
  ∀ (ks : List Key) (p : Addr), ks.Perm L → H p = none → Q (.ref p) (upd H p (.lst ((ks.mergeSort (PySem.W.dataLe false kPy)).map kV)))
theorem kPy_depth (k : Key) : (kPy k).depth = 0 := by cases k <;> rfl
theorem cr_sortSet (hc : X.calm = true) (hu : X.A.units + 64 < cLine) : CallR X (.builtin "sorted") (rSortSet X.prog X.w) := by
  intro pins s σ H xs us Q I r h
  obtain ⟨a, L, rfl, ea, hl, al, q⟩ := h
  cases r with | cons r1 rt => ?_
  cases rt
  cases r1
  have R := setL_at I ea
  obtain ⟨nd, o, es, ep, t, ks, eo, xo, dd, pe, pm, sb, fi, ri, le⟩ := R
  have hh : X.A.handled = none := I.ok.hd hc
  refine Calls.call_function_entry kind_sorted plain_sorted entry_sorted (args_sorted1 _) ?_
  unfold Builtin.«sorted»
  refine wpAny_bind (m := checkCount "sorted" 1 1 _) (wpAny_pure ?_)
  refine wpAny_bind (collect_set (A := X.A.in1) hh ⟨o, eo, xo.1, dd⟩ fi sb ri le fun s1 vs k1 hz g1 o1 pv => ?_)
  obtain ⟨ks1, ev, pk1⟩ := each_perm pv (each_of pe)
  have pkL : ks1.Perm L := pk1.trans pm
  have hvl : vs.length ≤ 100000 := by rw [each_length ev, pkL.length_eq]; exact hl
  have hline : vs.length ≤ sizeLine := Nat.le_trans hvl (by decide)
  refine wpAny_bind (wpAny_newList ?_ hline)
  have eoL : (s1.heap.push (seqObj "list" vs.toArray 0)).get? s1.heap.objs.size = some (seqObj "list" vs.toArray 0) := Heap.get?_push_size _ rfl
  refine wpAny_bind (wpAny_holding (PySem.W.list_sort_data (R := fun v k => keyIs k v = true) (enc := kPy) eoL ev (ev.mono fun v k e => ⟨[], kPy_reads e, by simp⟩) ?_ (.inr fun d hd => ?_) (by rw [← each_length ev]; exact hline) (fun k hk => ?_) fun out hlen hout => ?_))
  · intro d hd d' hd'
    exact al d ((pkL.map kPy).mem_iff.mp hd) d' ((pkL.map kPy).mem_iff.mp hd')
  · obtain ⟨k, _, rfl⟩ := List.mem_map.mp hd
    cases k <;> exact ⟨(fun z => nomatch z), fun xs z => nomatch z⟩
  · rw [kPy_depth]; show X.A.units + 1 + 1 + 0 < cLine; omega
  · obtain ⟨c, ec⟩ := sortedHeap_at (vs := vs) (out := out.toArray) eoL
    have hp : H s1.heap.objs.size = none := I.hok.fresh hz
    refine wpAny_pure ⟨_, rfl, ?_⟩
    have kp : ∀ b u, s.heap.get? b = some u → (sortedHeap (s1.heap.push (seqObj "list" vs.toArray 0)) s1.heap.objs.size vs out.toArray).get? b = some u := fun b u e => by
      have e1 := k1 b u e
      have lt := Heap.lt_size e1
      rw [sortedHeap_old (Nat.ne_of_lt lt) (by rw [size_push']; exact Nat.lt_succ_of_lt lt)]
      exact Heap.get?_push_of_some _ e1
    have vo : Vals ((ks1.mergeSort (PySem.W.dataLe false kPy)).map kV) out := vals_each hout
    have ho : ObjOk X.prog X.w (upd H s1.heap.objs.size (.lst ((ks1.mergeSort (PySem.W.dataLe false kPy)).map kV))) (sortedHeap (s1.heap.push (seqObj "list" vs.toArray 0)) s1.heap.objs.size vs out.toArray) s1.heap.objs.size (.lst ((ks1.mergeSort (PySem.W.dataLe false kPy)).map kV)) := by
      refine ⟨by rw [Vals.length vo, hlen, ← each_length ev]; exact hline, out, c, vo, ?_⟩
      exact ec
    obtain ⟨h1, g1', d1, t1, o1'⟩ := s1
    obtain ⟨h2, g2, d2, t2, o2⟩ := s
    have o1 : o1' = o2 := o1
    have g1 : g1' = g2 := g1
    subst o1 g1
    refine ⟨.ref _, _, ?_, rfl, q ks1 _ pkL hp⟩
    have J := I.call (ch := []) (g' := g1') (d' := d1) (t' := t1) (Un.laid (o := .lst ((ks1.mergeSort (PySem.W.dataLe false kPy)).map kV)) kp hz hp) (I.hok.laid kp hz ho) I.bare (fun _ z => nomatch z)
    exact J
end
end Zs

set_option Elab.async false
set_option linter.all false
set_option maxRecDepth 100000
set_option maxHeartbeats 2000000
/-! Zv: comprehensions of sets in states of Zi. -/
namespace Zi
open PySem PySem.Spec PyProof.Rows L2 Ly Lc Zs
/-- a loop of a clause -/
theorem cl_it {J : It} {n : Nat} {G : Hp → Prop} {Y : Nat → Hp → V → Hp → Prop} (w : Walk J n G Y) {g : TG} {tt : TT} {t : TCl} {vs : List Nat} {σ : L2.St} {H1 : Hp} {Qd : Hp → Prop} (Pv : Nat → Hp → Prop) (h0 : Pv 0 H1) (hG : ∀ i H, i ≤ n → Pv i H → G H)
    (hs : ∀ i x H H' (N : Hp → Prop), (∀ H, Pv (i + 1) H → N H) → i < n → Pv i H → Y i H x H' → g x (L2.wipe σ vs) H' fun σ2 H2 => L2.wipe σ2 vs = L2.wipe σ vs ∧ tt σ2 H2 fun b H3 => if b = true then t σ2 H3 N else N H3) (hd : ∀ H, Pv n H → Qd H) :
    ∃ W : Nat → Nat → Hp → Prop, (∃ m, W 0 m H1) ∧ ∀ i m H, W i m H →
      (J.stop i H ∧ Qd H) ∨ (J.go i H ∧ ∃ Nx : Hp → Prop, (∀ H', Nx H' → ∃ m', m' < m ∧ W (i + 1) m' H') ∧ ∀ x H', J.yld i H x H' → g x (L2.wipe σ vs) H' fun σ2 H2 => L2.wipe σ2 vs = L2.wipe σ vs ∧ tt σ2 H2 fun b H3 => if b = true then t σ2 H3 Nx else Nx H3) := by
  refine ⟨fun i m H => m = n - i ∧ i ≤ n ∧ Pv i H, ⟨n, by simp, Nat.zero_le _, h0⟩, ?_⟩
  rintro i m H ⟨rfl, hi, p⟩
  have q := hG i H hi p
  by_cases hlt : i < n
  · exact .inr ⟨w.goes i H hlt q, Pv (i + 1), fun H' p' => ⟨n - (i + 1), by omega, rfl, hlt, p'⟩, fun x H' y => hs i x H H' _ (fun _ z => z) hlt p (w.yields i H x H' hlt q y)⟩
  · have e : i = n := by omega
    subst e
    exact .inl ⟨w.stops H q, hd H p⟩
section
variable {Z : EX} {K : PySem.W.Frag} {P : Program} {w : World} {B : Bs} {F F' H H' : Hp} {al al' : Nat → Addr} {s s' : AS} {σ σ' : L2.St} {Dl : Addr}
abbrev ACl := AS → List Key → (AS → List Key → Prop) → Prop
def RCl (Z : EX) (P : Program) (w : World) (t : Addr → TCl) (a : ACl) : Prop := ∀ B, Okx B Z → ∀ F al s σ H Dl acc (Nx : Hp → Prop) k, Rel B F al s σ H → Apart B F al s σ Dl → H Dl = some (SetL P w acc Dl) → a s acc k →
  (∀ F' al' s' H' acc', Ext F F' al al' s.st.length s'.st.length → Rel B F' al' s' σ H' → Apart B F' al' s' σ Dl → H' Dl = some (SetL P w acc' Dl) → k s' acc' → Nx H') → t Dl σ H Nx
def aPutS (e : AE) : ACl := fun s acc k => e s fun r s1 => pk s1 r fun d => match keyOf d with
  | some q => acc.length + 1 < scanBound ∧ k s1 (plus acc q)
  | none => False
theorem Rel.other {o : HO} (X : Rel B F al s σ H) (A : Apart B F al s σ Dl) : Rel B F al s σ (upd H Dl o) := X.heap fun b u e hb => by
  rw [upd_ne]
  · exact e
  · rintro rfl
    rcases hb with z | z | ⟨n, z1, z2⟩ | ⟨j, c', z1, z2⟩
    · rw [A.g] at z; cases z
    · rw [A.f] at z; cases z
    · exact A.a n z1 z2
    · exact A.e j c' z1 z2
theorem RCl.put {te : TE} {e : AE} (he : RE Z te e) : RCl Z P w (fun D σ H Nx => te σ H fun y H7 => rPut P w D y H7 Nx) (aPutS e) := fun B hB F al s σ H Dl acc Nx k X A eD h q => by
  refine he (B.gd Dl (SetL P w acc Dl)) (hB.gd A.g) F al s σ H _ _ (X.guard A eD) h ?_
  intro r s1 F1 al1 H1 v1 x1 X1 rv1 h1
  obtain ⟨d, e1, h1⟩ := pk_ok h1
  have tv := X1.peek rv1 e1
  obtain ⟨X2, eD2, A2⟩ := X1.unguard A.g
  split at h1
  · rename_i q' eq
    refine ⟨q', acc, keyOf_v eq tv, eD2, h1.1, ?_⟩
    refine q F1 al1 s1 _ (plus acc q') x1 (X2.other A2) A2 upd_same h1.2
  · exact h1.elim
def clGo (t : Tgt) (c : AT) (inner : ACl) (vs : List Nat) (k : AS → List Key → Prop) : List D → AS → List Key → Prop
  | [], s, acc => k s acc
  | d :: ds, s, acc => match bindT t d s.env with
    | some env' => c ⟨env', s.st⟩ fun b s1 => if b = true then inner s1 acc fun s2 acc' => clGo t c inner vs k ds ⟨wipeE s2.env vs, s2.st⟩ acc' else clGo t c inner vs k ds ⟨wipeE s1.env vs, s1.st⟩ acc
    | none => False
def clG (t : Tgt) (c : AT) (inner : ACl) (vs : List Nat) (k : AS → List Key → Prop) (ds : List D) (s : AS) (acc : List Key) (_ : Tag k) : Prop := clGo t c inner vs k ds s acc
def aCl (ai : AI) (t : Tgt) (c : AT) (inner : ACl) (vs : List Nat) : ACl := fun s acc k => ai s fun ds s1 => clG t c inner vs k ds ⟨wipeE s1.env vs, s1.st⟩ acc ⟨⟩
theorem Apart.wipe {vs : List Nat} (A : Apart B F al s σ Dl) : Apart B F al ⟨wipeE s.env vs, s.st⟩ (L2.wipe σ vs) Dl := ⟨A.g, A.f, A.a, fun j c ej hj => by
  rcases wipeE_get ej with z | ⟨z1, z2⟩
  · cases z
  · rw [wipe_out z1] at hj; exact A.e j c z2 hj⟩
/-- the loop of a clause, from a state whose slots vs are wiped -/
theorem cl_loop {g : TG} {t : Tgt} {tt : TT} {c : AT} {tc : Addr → TCl} {inner : ACl} {vs : List Nat} (hg : RG g t) (hc : RT Z tt c) (hin : RCl Z P w tc inner) (hv : ∀ j ∈ slots t, j ∈ vs)
    {B : Bs} (hB : Okx B Z) {F1 : Hp} {al1 : Nat → Addr} {s1 : AS} {H1 : Hp} {acc0 : List Key} {ds : List D} {k : AS → List Key → Prop} {J : It} {G : Hp → Prop} {Y : Nat → Hp → V → Hp → Prop}
    (X1 : Rel B F1 al1 s1 (L2.wipe σ vs) H1) (A1 : Apart B F1 al1 s1 (L2.wipe σ vs) Dl) (eD : H1 Dl = some (SetL P w acc0 Dl)) (wk : Walk J ds.length G Y) (hG : ∀ H2, Same F1 H2 → G H2) (hY : ∀ i H1 x H2, i < ds.length → Same F1 H1 → Y i H1 x H2 → YOk F1 H1 ds i x H2)
    (h1 : clGo t c inner vs k ds s1 acc0) {Qd : Hp → Prop} (hd : ∀ F' al' s' H' acc', Ext F1 F' al1 al' s1.st.length s'.st.length → Rel B F' al' s' (L2.wipe σ vs) H' → Apart B F' al' s' (L2.wipe σ vs) Dl → H' Dl = some (SetL P w acc' Dl) → k s' acc' → Qd H') :
    ∃ W : Nat → Nat → Hp → Prop, (∃ m, W 0 m H1) ∧ ∀ i m H, W i m H →
      (J.stop i H ∧ Qd H) ∨ (J.go i H ∧ ∃ Nx : Hp → Prop, (∀ H', Nx H' → ∃ m', m' < m ∧ W (i + 1) m' H') ∧ ∀ x H', J.yld i H x H' → g x (L2.wipe σ vs) H' fun σ2 H2 => L2.wipe σ2 vs = L2.wipe σ vs ∧ tt σ2 H2 fun b H3 => if b = true then tc Dl σ2 H3 Nx else Nx H3) := by
  have hB1 := hB.re X1.ex
  have X1' := X1.re
  have un : ∀ {F' al' s' σ' H'}, Rel (B.re F1 al1 s1.st.length) F' al' s' σ' H' → Rel B F' al' s' σ' H' := fun X' => X'.un X1.ex
  have A1' : Apart (B.re F1 al1 s1.st.length) F1 al1 s1 (L2.wipe σ vs) Dl := ⟨A1.g, A1.f, A1.a, A1.e⟩
  have unA : ∀ {F' al' s' σ'}, Apart (B.re F1 al1 s1.st.length) F' al' s' σ' Dl → Apart B F' al' s' σ' Dl := fun A => ⟨A.g, A.f, A.a, A.e⟩
  generalize hB' : B.re F1 al1 s1.st.length = B1 at hB1 X1' un A1' unA
  have BF : B1.F = F1 := by rw [← hB']; rfl
  have BA : B1.al = al1 := by rw [← hB']; rfl
  have BL : B1.L = s1.st.length := by rw [← hB']; rfl
  refine cl_it wk (fun i H' => ∃ F' al' s' acc, Rel B1 F' al' s' (L2.wipe σ vs) H' ∧ Apart B1 F' al' s' (L2.wipe σ vs) Dl ∧ H' Dl = some (SetL P w acc Dl) ∧ clGo t c inner vs k (ds.drop i) s' acc) ⟨F1, al1, s1, acc0, X1', A1', eD, h1⟩ ?_ ?_ ?_
  · rintro i H' _ ⟨F', al', s', acc, X', _⟩
    exact hG H' fun a o e => X'.sm a o (X'.ex.ff a o (by rw [BF]; exact e))
  · rintro i y H' H2 N hN hlt ⟨F', al', s', acc, X', ap, hD, h'⟩ yl
    have f1 : Same F1 F' := fun a o e => X'.ex.ff a o (by rw [BF]; exact e)
    have Xg := X'.guard ap hD
    have hBg := hB1.gd (o := SetL P w acc Dl) ap.g
    obtain ⟨F2, d, x2, X2, e1, dv, k2⟩ := Xg.item (F1 := F1) f1 (hY i H' y H2 hlt (fun a o e => X'.sm a o (f1 a o e)) yl)
    have hdr : ds.drop i = d :: ds.drop (i + 1) := by
      obtain ⟨hl, e⟩ := List.getElem?_eq_some_iff.mp e1
      rw [← e]; exact List.drop_eq_getElem_cons hl
    rw [hdr] at h'
    unfold clGo at h'
    cases z : bindT t d s'.env with
    | none => rw [z] at h'; exact h'.elim
    | some env' =>
      rw [z] at h'
      refine hg _ F2 al' s' _ H2 _ _ d env' X2 dv z fun σ3 X3 w3 => ?_
      have w3' : L2.wipe σ3 vs = L2.wipe σ vs := by rw [w3 vs hv]; exact wipe_wipe
      refine ⟨w3', ?_⟩
      refine hc _ hBg F2 al' _ σ3 H2 _ _ X3 h' ?_
      intro b s4 F4 al4 H4 x4 X4 h4
      obtain ⟨X5, hD5, ap5⟩ := X4.unguard ap.g
      cases b with
      | false =>
        have X6 := X5.wipe (vs := vs)
        have A6 := ap5.wipe (vs := vs)
        rw [w3'] at X6 A6
        exact hN _ ⟨F4, al4, _, acc, X6, A6, hD5, h4⟩
      | true =>
        refine hin B1 hB1 F4 al4 s4 σ3 H4 Dl acc N _ X5 ap5 hD5 h4 ?_
        intro F5 al5 s5 H5 acc' x5 X7 A7 hD7 h7
        have X8 := X7.wipe (vs := vs)
        have A8 := A7.wipe (vs := vs)
        rw [w3'] at X8 A8
        exact hN _ ⟨F5, al5, _, acc', X8, A8, hD7, h7⟩
  · rintro H' ⟨F', al', s', acc, X', ap, hD, h'⟩
    rw [List.drop_length] at h'
    unfold clGo at h'
    have ex1 : Ext F1 F' al1 al' s1.st.length s'.st.length := by
      have := X'.ex
      rw [BF, BA, BL] at this
      exact this
    exact hd F' al' s' H' acc ex1 (un X') (unA ap) hD h'
theorem RCl.cl {ti : TI} {ai : AI} {g : TG} {t : Tgt} {tt : TT} {c : AT} {tc : Addr → TCl} {inner : ACl} {vs : List Nat} (hi : RI Z ti ai) (hg : RG g t) (hc : RT Z tt c) (hin : RCl Z P w tc inner) (hv : ∀ j ∈ slots t, j ∈ vs) :
    RCl Z P w (fun D => tCl ti g tt (tc D) vs) (aCl ai t c inner vs) := fun B hB F al s σ H Dl acc Nx k X A eD h q => by
  refine hi (B.gd Dl (SetL P w acc Dl)) (hB.gd A.g) F al s σ H _ _ (X.guard A eD) h ?_
  intro ds s1 F1 al1 H1 J G Y x1 X1 wk hG hY h1
  obtain ⟨X2, eD2, A2⟩ := X1.unguard A.g
  refine cl_loop hg hc hin hv hB X2.wipe A2.wipe eD2 wk hG hY h1 ?_
  intro F' al' s' H' acc' x' X' A' eD' h'
  have sub : ∀ (j : Nat) (e : Sl), s'.env[j]? = some e → e = .no ∨ (s'.env[j]? = some e ∧ σ[j]? = (L2.wipe σ vs)[j]?) ∨ ∃ w, e = .v w ∧ ∃ v, σ[j]? = some (some v) ∧ WV F' al' s'.st.length w v := fun j e he => by
    cases e with
    | no => exact .inl rfl
    | v w =>
      obtain ⟨v, h1, h2⟩ := X'.ev j w he
      exact .inr (.inr ⟨w, rfl, v, (wipe_some h1).1, h2⟩)
    | own c =>
      obtain ⟨a, ha, _⟩ := X'.eo j c he
      have z := wipe_some ha
      exact .inr (.inl ⟨he, by rw [wipe_out z.2]⟩)
  have X3 : Rel B F' al' s' σ H' := X'.sub (by rw [← wipe_length σ vs]; exact X'.le) sub
  refine q F' al' s' H' acc' (x1.trans x') X3 ⟨A'.g, A'.f, A'.a, fun j c ej hj => ?_⟩ eD' h'
  rcases sub j _ ej with z | ⟨z1, z2⟩ | ⟨w, z1, _⟩
  · cases z
  · exact A'.e j c ej (by rw [← z2]; exact hj)
  · cases z1
/-- sorted of a set comprehension -/
def kDs (ks : List Key) : List D := ks.map kD
def aSortSet (ai : AI) (t : Tgt) (c : AT) (inner : ACl) (vs : List Nat) : AN := fun s A => ai s fun ds s1 => clG t c inner vs (fun s2 L => L.length ≤ 100000 ∧ PySem.W.AllAlike (L.map kPy) ∧
  ∀ ks : List Key, ks.Perm L → A (.new (.lst (kDs (ks.mergeSort (PySem.W.dataLe false kPy))))) ⟨backE s1.env s2.env vs, s2.st⟩) ds ⟨wipeE s1.env vs, s1.st⟩ [] ⟨⟩
theorem kDs_dv : ∀ ks : List Key, DvAll F (ks.map kV) (kDs ks)
  | [] => .nil
  | k :: ks => by
    refine .cons ?_ (kDs_dv ks)
    cases k with
    | inl i => exact .int i
    | inr x => exact .str x
theorem RN.sortSet {ti : TI} {ai : AI} {g : TG} {t : Tgt} {tt : TT} {c : AT} {tc : Addr → TCl} {inner : ACl} {vs : List Nat} (hi : RI Z ti ai) (hg : RG g t) (hc : RT Z tt c) (hin : RCl Z P w tc inner) (hv : ∀ j ∈ slots t, j ∈ vs) :
    RN Z (tCB (rSortSet P w) (tCons (tComp ti g tt tc vs (SetL P w [])) tNil)) (aSortSet ai t c inner vs) := fun B hB F al s σ H Q A X h q => by
  refine hi B hB F al s σ H _ _ X h ?_
  intro ds s1 F1 al1 H1 J G Y x1 X1 wk hG hY h1 Dl nD
  have A1 := X1.apart nD
  refine cl_loop hg hc hin hv hB ((X1.other A1).wipe) A1.wipe upd_same wk hG hY h1 ?_
  intro F' al' s' H' L x' X' A' eD' h'
  refine ⟨Dl, L, rfl, eD', h'.1, h'.2.1, fun ks p pm np => ?_⟩
  have sub : ∀ (j : Nat) (e : Sl), (backE s1.env s'.env vs)[j]? = some e → e = .no ∨ (s'.env[j]? = some e ∧ σ[j]? = (L2.wipe σ vs)[j]?) ∨ ∃ w, e = .v w ∧ ∃ v, σ[j]? = some (some v) ∧ WV F' al' s'.st.length w v := fun j e he => by
    rcases backE_get he with z | ⟨z1, z2⟩ | ⟨w, z1, z2⟩
    · exact .inl z
    · exact .inr (.inl ⟨z2, (wipe_out z1).symm⟩)
    · obtain ⟨v, h1, h2⟩ := X1.ev j w z2
      exact .inr (.inr ⟨w, z1, v, h1, h2.ext x'⟩)
  have X3 : Rel B F' al' ⟨backE s1.env s'.env vs, s'.st⟩ σ H' := X'.sub (by rw [backE_len, ← wipe_length σ vs]; exact X'.le) sub
  exact q (.new (.lst _)) ⟨backE s1.env s'.env vs, s'.st⟩ F' al' _ _ (x1.trans x') (X3.newL np (kDs_dv _)).1 (X3.newL np (kDs_dv _)).2 (h'.2.2 ks pm)
end
end Zi

set_option Elab.async false
set_option linter.all false
set_option maxRecDepth 100000
set_option maxHeartbeats 2000000
/-! Zw: the least of a list, sorted of a list, isinstance, slices stored. -/
namespace Zs
open PySem PySem.Spec PyProof.Rows L2 Ly
open PySem.W (minD AlikeAll)
section
variable {X : Cx}
/-- min(xs): xs not empty, of data that can be compared -/
def rMinD (K : PySem.W.Frag) : List V → Hp → VK → Prop := fun xs H Q => ∃ (a : Addr) (vs : List V) (d : PyData) (ds : List PyData), xs = [.ref a] ∧ SqL K H a vs ∧ DpAll K H vs (d :: ds) ∧ AlikeAll (d :: ds) ∧ PyData.depthAll (d :: ds) ≤ 60 ∧
  ∀ (i : Nat) v, vs[i]? = some v → (d :: ds)[i]? = some (minD d ds) → Q v H
theorem cr_minD (hc : X.calm = true) (hu : X.A.units + 64 < cLine) : CallR X (.builtin "min") (rMinD X.K) := by
  intro pins s σ H xs us Q I r h
  obtain ⟨a, vs, d, ds, rfl, hs, dp, al, hd, q⟩ := h
  cases r with | cons r1 rt => ?_
  cases rt
  cases r1
  obtain ⟨its, rv, hl, hz⟩ := I.list hs
  obtain ⟨as, ra⟩ := Dp.readsAll I (d :: ds) vs its dp rv
  refine PySem.W.min_list_data (I.ok.hd hc) hl.isList ra al (by omega) fun i v h' tk bs ei rd kp => ?_
  have ei : its[i]? = some v := by simpa using ei
  obtain ⟨cs, r2, hi, _, _⟩ := PySem.W.readsAll_at ra i v ei
  have hget : (d :: ds)[i]? = some ((d :: ds).getD i .none) := by
    rw [List.getD_eq_getElem?_getD, List.getElem?_eq_getElem hi]; rfl
  have e := (PyProof.Rows.reads_det (fun b o e _ => e) (Reads.keeps kp r2) rd).1
  have hj : i < vs.length := by rw [rv.length]; exact (List.getElem?_eq_some_iff.mp ei).1
  obtain ⟨u, hu', ru⟩ := rv.get (List.getElem?_eq_getElem hj)
  rw [ei] at hu'; cases hu'
  refine ⟨vs[i], H, I.kept (h' := h') (t' := tk) kp, ru, q i _ (List.getElem?_eq_getElem hj) ?_⟩
  rw [hget, ← e]
/-- sorted(xs) -/
def encB (b : V × PyData) : PyData := b.2
def rSortD (K : PySem.W.Frag) : List V → Hp → VK → Prop := fun xs H Q => ∃ (a : Addr) (bs : List (V × PyData)), xs = [.ref a] ∧ SqL K H a (bs.map (·.1)) ∧ (∀ b ∈ bs, Dp K H b.1 b.2) ∧ PySem.W.AllAlike (bs.map encB) ∧ PySem.W.Sortable (bs.map encB) ∧ (∀ b ∈ bs, b.2.depth ≤ 60) ∧
  ∀ p, H p = none → Q (.ref p) (upd H p (.lst ((bs.mergeSort (PySem.W.dataLe false encB)).map (·.1))))
theorem each_vals : ∀ {bs : List (V × PyData)} {us : List Value}, Vals (bs.map (·.1)) us → PySem.W.EachIs (fun v (b : V × PyData) => RelV b.1 v) us bs
  | [], _, h => by cases h; exact .nil
  | b :: bs, _, h => by
    cases h with | cons h1 h2 => ?_
    exact .cons h1 (each_vals h2)
theorem vals_eachB : ∀ {bs : List (V × PyData)} {us : List Value}, PySem.W.EachIs (fun v (b : V × PyData) => RelV b.1 v) us bs → Vals (bs.map (·.1)) us
  | _, _, .nil => .nil
  | _, _, .cons h t => .cons h (vals_eachB t)
theorem each_in {α β : Type} {R : α → β → Prop} : ∀ {us : List α} {ks : List β}, PySem.W.EachIs R us ks → PySem.W.EachIs (fun a b => R a b ∧ b ∈ ks) us ks
  | _, _, .nil => .nil
  | _, _, .cons x t => .cons ⟨x, List.mem_cons_self⟩ ((each_in t).mono fun _ _ z => ⟨z.1, List.mem_cons_of_mem _ z.2⟩)
theorem cr_sortD (hu : X.A.units + 64 < cLine) : CallR X (.builtin "sorted") (rSortD X.K) := by
  intro pins s σ H xs us Q I r h
  obtain ⟨a, bs, rfl, hs, dp, al, so, hd, q⟩ := h
  cases r with | cons r1 rt => ?_
  cases rt
  cases r1
  obtain ⟨its, rv, hl, hz⟩ := I.list hs
  have ev := each_vals rv
  rw [List.length_map] at hz
  refine PySem.W.sorted_data (enc := encB) hl.isList ev ((each_in ev).mono fun v b z => Dp.reads I b.2 b.1 v (dp b z.2) z.1) al so hz (fun b hb => ?_) fun out hlen hout => ?_
  · have := hd b hb
    show X.A.units + 2 + b.2.depth < cLine
    omega
  · obtain ⟨ep, he'⟩ := PyProof.Rows.sortedAll_at s.heap its out.toArray
    have vo := vals_eachB hout
    have ho : ObjOk X.prog X.w (upd H (s.heap.objs.size + 1) (.lst ((bs.mergeSort (PySem.W.dataLe false encB)).map (·.1)))) (sortedAll s.heap its out.toArray) (s.heap.objs.size + 1) (.lst ((bs.mergeSort (PySem.W.dataLe false encB)).map (·.1))) :=
      ⟨by rw [Vals.length vo, hlen]; exact hz, out, ep, vo, he'⟩
    exact ⟨.ref _, _, I.laid (t' := s.toks) (fun _ _ => PyProof.Rows.sortedAll_old) (Nat.le_succ _) ho, rfl, q _ (I.hok.fresh (Nat.le_succ _))⟩
/-- o[a:c] = v, v a list -/
def gSlc (to tl th : TE) : TG := fun v σ H Q => to σ H fun o H1 => tl σ H1 fun i H2 => th σ H2 fun j H3 => ∃ (l b : Addr) (xs ys : List V) (m n : Int), o = .ref l ∧ v = .ref b ∧ i = .int m ∧ j = .int n ∧ H3 l = some (.lst xs) ∧ H3 b = some (.lst ys) ∧ l ≠ b ∧ 0 ≤ m ∧ m ≤ n ∧ n ≤ xs.length ∧
  xs.length + ys.length ≤ sizeLine ∧ Q σ (upd H3 l (.lst (xs.take m.toNat ++ ys ++ xs.drop n.toNat)))
theorem pg_slc {o lo hi : Expr} {to tl th : TE} {pos p2 : Pos} (ho : PE X o to) (hl : PE X lo tl) (hh : PE X hi th)
    (ha : ∀ v, assign (.Subscript o (.Slice (some lo) (some hi) none p2) pos) X.env v = (do
      let ov ← holding [v] (eval o X.env)
      let iv ← holding [v, ov] (eval (.Slice (some lo) (some hi) none p2) X.env)
      standAt pos
      holding [v, ov, iv] (setItem ov iv v)
      release [iv, v, ov] []) := by intro _; rfl) : PG X (.Subscript o (.Slice (some lo) (some hi) none p2) pos) (gSlc to tl th) := by
  refine ⟨fun pins s σ H v u Q I r h => ?_⟩
  rw [ha]
  refine wpAny_bind (wpAny_holding (thn (ho.run pins s σ H _ I h) fun ov s1 ⟨x, H1, I1, r1, q1⟩ => ?_))
  refine wpAny_bind (wpAny_holding ?_)
  refine wpAny_Slice ?_
  rw [evalPart_some]
  refine thn (hl.run pins s1 σ H1 _ I1 q1) fun vl s2 ⟨y, H2, I2, r2, q2⟩ => ?_
  rw [evalPart_some]
  refine thn (hh.run pins s2 σ H2 _ I2 q2) fun vu s3 ⟨z, H3, I3, r3, l, b, xs, ys, m, n, ex, ev, ey, ez, e1, e2, ne, h0, h1, h2, h3, q3⟩ => ?_
  subst ex ev ey ez
  rw [evalPart_none]
  refine wpAny_pure ?_
  have I4 : Inv X pins σ H3 { s3 with heap := s3.heap.push { cls := .type "slice", data := .fields #[vl, vu, .none] } } := I3.kept (t' := s3.toks) fun b ob q => Heap.get?_push_of_some _ q
  cases r1
  cases r
  refine wpAny_bind (wpAny_standAt (wpAny_bind (wpAny_holding ?_)))
  refine set_slice I4 e1 e2 ne (Heap.IsSliceOf.new ..) r2 r3 h0 h1 h2 h3 fun s' I5 => ?_
  exact wpAny_release ⟨σ, _, I5, q3⟩
end
end Zs
namespace Zi
open PySem PySem.Spec PyProof.Rows L2 Ly Zs
open PySem.W (minD AlikeAll)
section
variable {Z : EX} {K : PySem.W.Frag} {B : Bs} {F F' H H' : Hp} {al al' : Nat → Addr} {s s' : AS} {σ σ' : L2.St}
theorem tyN_x {v : V} {d : D} (h : Tv F H v d) (sm : Same F H) (hd : tyN d ≠ "") : TyX K H v (.type (tyN d)) := by
  cases d with
  | non => cases (show Dv F v .non from h).nonE; exact .base .non
  | bl b => cases h.blE; exact .base (.bl b)
  | int i => cases h.intE; exact .base (.int i)
  | str x => cases h.strE; exact .base (.str x)
  | lst ds => obtain ⟨a, vs, rfl, e, _⟩ := h; exact .base (.lst e)
  | tup ds => obtain ⟨a, vs, rfl, e, _⟩ := h; exact .base (.tup e)
  | dic ks ds => obtain ⟨a, vs, rfl, e, _⟩ := h; exact .base (.dK e)
  | ins C ns ds => exact (hd rfl).elim
theorem RE.isi {ta : TE} {a : AE} {T : String} (hT : kitB "" T = none) (ha : RE Z ta a) : RE Z (tCB (rIsi K) (tCons ta (tCons (tC (.ty T)) tNil))) (aIsi a T) := fun B hB F al s σ H Q A X h q => by
  refine ha B hB F al s σ H _ _ X h ?_
  intro r s1 F1 al1 H1 v1 x1 X1 rv1 h1
  obtain ⟨d, e1, h1⟩ := pk_ok h1
  have tv := X1.peek rv1 e1
  split at h1
  · rename_i b eb
    have hne : tyN d ≠ "" := fun z => by
      rw [z] at eb
      rw [hT] at eb; cases eb
    exact ⟨v1, .ty T, .type (tyN d), .type T, b, rfl, .ty T, tyN_x tv X1.sm hne, kit_ty eb, q (.w (.d (.bl b))) s1 F1 al1 H1 _ x1 X1 (Dv.bl b) h1⟩
  · exact h1.elim
def bMin : List D → (D → Prop) → Prop := fun ds A => match ds with
  | [.lst (x :: xs)] => PyData.plainAll (pyAll (x :: xs)) = true ∧ AlikeAll (py x :: pyAll xs) ∧ PyData.depthAll (pyAll (x :: xs)) ≤ 60 ∧ ∀ (i : Nat) (z : D), (x :: xs)[i]? = some z → py z = minD (py x) (pyAll xs) → A z
  | _ => False
theorem bMin_ok : OB (rMinD K) bMin := fun F H vs ds Q A sm tv h q => by
  unfold bMin at h
  split at h
  · rename_i x xs
    cases tv with | cons t1 t => ?_
    cases t
    obtain ⟨a, us, rfl, ea, dv⟩ := t1
    obtain ⟨h1, h2, h3, h4⟩ := h
    refine ⟨a, us, py x, pyAll xs, rfl, SqL.of ea, ((dv.mono sm).dq h1).dp h1, h2, h3, fun i v hv hi => ?_⟩
    obtain ⟨z, hz, dz⟩ := dv.getV hv
    have e : py z = minD (py x) (pyAll xs) := by
      have : (pyAll (x :: xs))[i]? = some (py z) := by rw [pyAll_map, List.getElem?_map, hz]; rfl
      rw [show py x :: pyAll xs = pyAll (x :: xs) from rfl, this] at hi
      exact Option.some.inj hi
    exact q z v dz (h4 i z hz e)
  · exact h.elim
def sortD (ds : List D) : List D := ds.mergeSort (PySem.W.dataLe false py)
def bSort : List D → (List D → Prop) → Prop := fun ds A => match ds with
  | [.lst xs] => PyData.plainAll (pyAll xs) = true ∧ PySem.W.AllAlike (xs.map py) ∧ PySem.W.Sortable (xs.map py) ∧ (∀ x ∈ xs, (py x).depth ≤ 60) ∧ A (sortD xs)
  | _ => False
theorem Rel.getCf {r : R} {v : V} {c : Cell} (X : Rel B F al s σ H) (h : RV F al s.st.length σ r v) (e : Zi.getC s r = some c) : ∃ a, v = .ref a ∧ F a = none := by
  cases r with
  | w w =>
    cases w with
    | d x => cases e
    | raw u φ => cases e
    | loc n => exact ⟨_, h.1, (X.cl n c e).2.f⟩
  | sl i =>
    have h : σ[i]? = some (some v) := h
    unfold Zi.getC at e
    simp only at e
    cases q : s.env[i]? with
    | none => rw [q] at e; cases e
    | some z =>
      rw [q] at e
      cases z with
      | no => cases e
      | own c1 =>
        cases e
        obtain ⟨a, ha, _, ⟨f, _⟩, _⟩ := X.eo i c q
        rw [h] at ha; cases ha
        exact ⟨a, rfl, f⟩
      | v w =>
        cases w with
        | d x => cases e
        | raw u φ => cases e
        | loc n =>
          obtain ⟨u, hu, hw⟩ := X.ev i _ q
          rw [h] at hu; cases hu
          exact ⟨_, hw.1, (X.cl n c e).2.f⟩
/-- o[a:c] = e -/
def aSetSl (e o lo hi : AE) : ASt := fun N s => e s fun r s1 => toW r s1 fun w s2 => o s2 fun ro s3 => lo s3 fun rl s4 => hi s4 fun rh s5 => pk s5 rl fun dl => pk s5 rh fun dh => match w, dl, dh, getC s5 ro with
  | .d (.lst ys), .int m, .int n, some (.lst xs) => 0 ≤ m ∧ m ≤ n ∧ n ≤ xs.length ∧ xs.length + ys.length ≤ sizeLine ∧ N.nx (putC s5 ro (.lst (xs.take m.toNat ++ ys ++ xs.drop n.toNat)))
  | _, _, _, _ => False
theorem RS.setSl {te to tl th : TE} {e o lo hi : AE} (he : RE Z te e) (ho : RE Z to o) (hl : RE Z tl lo) (hh : RE Z th hi) : RS Z (tAsg te (gSlc to tl th)) (aSetSl e o lo hi) := fun B hB D A rd F al s σ H X h => by
  refine he B hB F al s σ H _ _ X h ?_
  intro r s1 F1 al1 H1 v1 x1 X1 rv1 h1
  obtain ⟨F2, al2, w, s2, x2, X2, wv, h2⟩ := toW_ok X1 rv1 h1
  refine ho B hB F2 al2 s2 σ H1 _ _ X2 h2 ?_
  intro ro s3 F3 al3 H3 v3 x3 X3 rv3 h3
  refine hl B hB F3 al3 s3 σ H3 _ _ X3 h3 ?_
  intro rl s4 F4 al4 H4 v4 x4 X4 rv4 h4
  refine hh B hB F4 al4 s4 σ H4 _ _ X4 h4 ?_
  intro rh s5 F5 al5 H5 v5 x5 X5 rv5 h5
  obtain ⟨dl, e1, h6⟩ := pk_ok h5
  obtain ⟨dh, e2, h7⟩ := pk_ok h6
  clear h5 h6
  have tl' := X5.peek (rv4.ext x5) e1
  have th' := X5.peek rv5 e2
  have wv5 := ((wv.ext x3).ext x4).ext x5
  split at h7
  · rename_i ys m n xs eg
    obtain ⟨l, o', rfl, el, hc, pt⟩ := X5.getC ((rv3.ext x4).ext x5) eg
    cases hc with | lst dv => ?_
    obtain ⟨b, vs, rfl, eb, dw⟩ := (show Dv F5 v1 (.lst ys) from wv5).lstE
    obtain ⟨X6, _⟩ := pt _ _ (.lst (((dv.take m.toNat).append dw).append (dv.drop n.toNat)))
    have ne : l ≠ b := fun z => by
      obtain ⟨l', e1, f1⟩ := X5.getCf ((rv3.ext x4).ext x5) eg
      cases e1
      rw [z] at f1
      rw [f1] at eb; cases eb
    exact ⟨l, b, _, vs, m, n, rfl, rfl, tl'.intE, th'.intE, el, X5.sm _ _ eb, ne, h7.1, h7.2.1, by rw [dv.length]; exact h7.2.2.1, by rw [dv.length, dw.length]; exact h7.2.2.2.1, rd.nx F5 al5 _ _ _ X6 h7.2.2.2.2⟩
  · exact h7.elim
end
theorem kit_NoneType_bool : kitB "NoneType" "bool" = some false := by decide +kernel
theorem kit_NoneType_int : kitB "NoneType" "int" = some false := by decide +kernel
theorem kit_NoneType_str : kitB "NoneType" "str" = some false := by decide +kernel
theorem kit_NoneType_list : kitB "NoneType" "list" = some false := by decide +kernel
theorem kit_NoneType_tuple : kitB "NoneType" "tuple" = some false := by decide +kernel
theorem kit_NoneType_dict : kitB "NoneType" "dict" = some false := by decide +kernel
theorem kit_bool_bool : kitB "bool" "bool" = some true := by decide +kernel
theorem kit_bool_int : kitB "bool" "int" = some true := by decide +kernel
theorem kit_bool_str : kitB "bool" "str" = some false := by decide +kernel
theorem kit_bool_list : kitB "bool" "list" = some false := by decide +kernel
theorem kit_bool_tuple : kitB "bool" "tuple" = some false := by decide +kernel
theorem kit_bool_dict : kitB "bool" "dict" = some false := by decide +kernel
theorem kit_int_bool : kitB "int" "bool" = some false := by decide +kernel
theorem kit_int_int : kitB "int" "int" = some true := by decide +kernel
theorem kit_int_str : kitB "int" "str" = some false := by decide +kernel
theorem kit_int_list : kitB "int" "list" = some false := by decide +kernel
theorem kit_int_tuple : kitB "int" "tuple" = some false := by decide +kernel
theorem kit_int_dict : kitB "int" "dict" = some false := by decide +kernel
theorem kit_str_bool : kitB "str" "bool" = some false := by decide +kernel
theorem kit_str_int : kitB "str" "int" = some false := by decide +kernel
theorem kit_str_str : kitB "str" "str" = some true := by decide +kernel
theorem kit_str_list : kitB "str" "list" = some false := by decide +kernel
theorem kit_str_tuple : kitB "str" "tuple" = some false := by decide +kernel
theorem kit_str_dict : kitB "str" "dict" = some false := by decide +kernel
theorem kit_list_bool : kitB "list" "bool" = some false := by decide +kernel
theorem kit_list_int : kitB "list" "int" = some false := by decide +kernel
theorem kit_list_str : kitB "list" "str" = some false := by decide +kernel
theorem kit_list_list : kitB "list" "list" = some true := by decide +kernel
theorem kit_list_tuple : kitB "list" "tuple" = some false := by decide +kernel
theorem kit_list_dict : kitB "list" "dict" = some false := by decide +kernel
theorem kit_tuple_bool : kitB "tuple" "bool" = some false := by decide +kernel
theorem kit_tuple_int : kitB "tuple" "int" = some false := by decide +kernel
theorem kit_tuple_str : kitB "tuple" "str" = some false := by decide +kernel
theorem kit_tuple_list : kitB "tuple" "list" = some false := by decide +kernel
theorem kit_tuple_tuple : kitB "tuple" "tuple" = some true := by decide +kernel
theorem kit_tuple_dict : kitB "tuple" "dict" = some false := by decide +kernel
theorem kit_dict_bool : kitB "dict" "bool" = some false := by decide +kernel
theorem kit_dict_int : kitB "dict" "int" = some false := by decide +kernel
theorem kit_dict_str : kitB "dict" "str" = some false := by decide +kernel
theorem kit_dict_list : kitB "dict" "list" = some false := by decide +kernel
theorem kit_dict_tuple : kitB "dict" "tuple" = some false := by decide +kernel
theorem kit_dict_dict : kitB "dict" "dict" = some true := by decide +kernel
end Zi

set_option Elab.async false
set_option linter.all false
set_option maxRecDepth 100000
set_option maxHeartbeats 1000000
/-! Zx: loops over typed data; sets that grow. -/
namespace Zi
open PySem PySem.Spec PyProof.Rows L2 Ly Zs
section
variable {α : Type}
/-- a comprehension over typed items that changes nothing -/
theorem lcGo_ty {t : Tgt} {c : AT} {e : AE} {vs : List Nat} {k : List D → AS → Prop} {E0 : List Sl} {st : List Cell} (tD : α → D) (f : α → Bool) (g : α → D) (xs : List α) (hl : xs.length ≤ 100000)
    (h : ∀ x ∈ xs, ∃ env', bindT t (tD x) E0 = some env' ∧ wipeE env' vs = E0 ∧ (∀ A : Bool → AS → Prop, A (f x) ⟨env', st⟩ → c ⟨env', st⟩ A) ∧ (f x = true → ∀ A : R → AS → Prop, A (.w (.d (g x))) ⟨env', st⟩ → e ⟨env', st⟩ A))
    (hk : k ((xs.filter f).map g) ⟨E0, st⟩) : lcGo t c e vs k (xs.map tD) ⟨E0, st⟩ [] := by
  have main : ∀ (ys pre : List α), xs = pre ++ ys → lcGo t c e vs k (ys.map tD) ⟨E0, st⟩ ((pre.filter f).map g) := by
    intro ys
    induction ys with
    | nil =>
      intro pre e1
      rw [List.append_nil] at e1
      unfold lcGo
      rw [← e1]; exact hk
    | cons y ys ih =>
      intro pre e1
      obtain ⟨env', h1, h2, h3, h4⟩ := h y (by rw [e1]; simp)
      rw [List.map_cons]
      unfold lcGo
      simp only [h1]
      have e2 : xs = (pre ++ [y]) ++ ys := by rw [e1]; simp
      have ih' := ih (pre ++ [y]) e2
      rw [List.filter_append, List.map_append] at ih'
      refine h3 _ ?_
      cases hf : f y with
      | false =>
        rw [if_neg (by decide), h2]
        rw [List.filter_cons, if_neg (by rw [hf]; decide)] at ih'
        simpa using ih'
      | true =>
        rw [if_pos rfl]
        refine h4 hf _ ?_
        simp only [toW]
        rw [List.filter_cons, if_pos hf] at ih'
        refine ⟨?_, by rw [h2]; exact ih'⟩
        have a1 : ((pre.filter f).map g).length ≤ pre.length := by rw [List.length_map]; exact List.length_filter_le _ _
        have a2 : pre.length ≤ xs.length := by rw [e1, List.length_append]; omega
        exact Nat.lt_of_le_of_lt (Nat.le_trans a1 (Nat.le_trans a2 hl)) (by decide)
  exact main xs [] rfl
/-- a for over typed items -/
theorem forGo_ty {t : Tgt} {b : ASt} {N : AEnds} (tD : α → D) (I : List α → List α → AS → Prop) (xs : List α) (hnil : ∀ s, I xs [] s → N.nx s)
    (hcons : ∀ pre x ys s (k : AS → Prop), xs = pre ++ x :: ys → (∀ s, I (pre ++ [x]) ys s → k s) → I pre (x :: ys) s → match bindT t (tD x) s.env with | some env' => b ⟨k, N.rt, N.nx, k⟩ ⟨env', s.st⟩ | none => False) :
    ∀ s, I [] xs s → forGo t b N (xs.map tD) s := by
  have main : ∀ (ys pre : List α) s, xs = pre ++ ys → I pre ys s → forGo t b N (ys.map tD) s := by
    intro ys
    induction ys with
    | nil =>
      intro pre s e1 h
      rw [List.append_nil] at e1
      unfold forGo
      exact hnil s (by rw [e1]; exact h)
    | cons y ys ih =>
      intro pre s e1 h
      rw [List.map_cons]
      unfold forGo
      exact hcons pre y ys s _ e1 (fun s' h' => ih (pre ++ [y]) s' (by rw [e1]; simp) h') h
  exact fun s h => main xs [] s rfl h
theorem clGo_ty {t : Tgt} {c : AT} {inner : ACl} {vs : List Nat} {k : AS → List Key → Prop} (tD : α → D) (I : List α → List α → AS → List Key → Prop) (xs : List α) (hnil : ∀ s acc, I xs [] s acc → k s acc)
    (hcons : ∀ pre x ys s acc (k' : AS → List Key → Prop), xs = pre ++ x :: ys → (∀ s acc, I (pre ++ [x]) ys s acc → k' s acc) → I pre (x :: ys) s acc → match bindT t (tD x) s.env with
      | some env' => c ⟨env', s.st⟩ fun b s1 => if b = true then inner s1 acc fun s2 acc' => k' ⟨wipeE s2.env vs, s2.st⟩ acc' else k' ⟨wipeE s1.env vs, s1.st⟩ acc
      | none => False) : ∀ s acc, I [] xs s acc → clGo t c inner vs k (xs.map tD) s acc := by
  have main : ∀ (ys pre : List α) s acc, xs = pre ++ ys → I pre ys s acc → clGo t c inner vs k (ys.map tD) s acc := by
    intro ys
    induction ys with
    | nil =>
      intro pre s acc e1 h
      rw [List.append_nil] at e1
      unfold clGo
      exact hnil s acc (by rw [e1]; exact h)
    | cons y ys ih =>
      intro pre s acc e1 h
      rw [List.map_cons]
      unfold clGo
      exact hcons pre y ys s acc _ e1 (fun s' a' h' => ih (pre ++ [y]) s' a' (by rw [e1]; simp) h') h
  exact fun s acc h => main xs [] s acc rfl h
end
theorem mem_plus {κ : Type} [DecidableEq κ] {L : List κ} {k x : κ} : x ∈ plus L k ↔ x = k ∨ x ∈ L := by
  unfold plus
  split
  · rename_i h
    exact ⟨.inr, fun z => z.elim (fun e => e ▸ h) id⟩
  · exact List.mem_cons
theorem plus_len {κ : Type} [DecidableEq κ] {L : List κ} {k : κ} : (plus L k).length ≤ L.length + 1 := by
  unfold plus
  split
  · omega
  · rw [List.length_cons]; omega
theorem plus_map {ts : List Str} {x : Str} : plus (ts.map (Sum.inr : Str → Key)) (Sum.inr x) = (plus ts x).map Sum.inr := by
  unfold plus
  by_cases h : x ∈ ts
  · rw [if_pos h, if_pos (List.mem_map.mpr ⟨x, h, rfl⟩)]
  · rw [if_neg h, if_neg (fun z => by
      obtain ⟨y, hy, e⟩ := List.mem_map.mp z
      cases e; exact h hy)]
    rfl
theorem alike_texts (ts : List Str) : PySem.W.AllAlike ((ts.map (Sum.inr : Str → Key)).map kPy) := by
  intro d hd d' hd'
  rw [List.map_map] at hd hd'
  obtain ⟨a, _, rfl⟩ := List.mem_map.mp hd
  obtain ⟨b, _, rfl⟩ := List.mem_map.mp hd'
  rfl
theorem perm_texts {ts : List Str} {ks : List Key} (h : ks.Perm (ts.map Sum.inr)) : ∃ us : List Str, ks = us.map Sum.inr ∧ us.Perm ts := by
  obtain ⟨l', h1, h2⟩ := Ly.perm_map_ex (Sum.inr : Str → Key) (fun | .inr s => s | _ => "") (fun _ => rfl) h
  exact ⟨l', h1, h2⟩
theorem kDs_texts (us : List Str) : kDs (us.map Sum.inr) = us.map D.str := by
  unfold kDs
  rw [List.map_map]
  rfl
theorem scanBound_big : 4000 < scanBound := by decide
end Zi

set_option Elab.async false
set_option linter.all false
set_option maxRecDepth 100000
set_option maxHeartbeats 1000000
/-! Zy: for over a slot's own list, which comes back to its slot behind the loop; pairs. -/
namespace Zi
open PySem PySem.Spec PyProof.Rows L2 Ly Zs
open PySem.W (minD AlikeAll dataLt)
section
variable {Z : EX} {K : PySem.W.Frag} {B : Bs} {F F' F1 H H' : Hp} {al al' al1 : Nat → Addr} {s s' : AS} {σ σ' : L2.St} {a p : Addr} {o : HO} {i n L : Nat} {st : List Cell}
abbrev lent (a : Addr) : Sl := .v (.raw (.ref a) fun _ => True)
def comesBack (i : Nat) (a : Addr) (ds : List D) (k : AS → Prop) : AS → Prop := fun s => s.env[i]? = some (lent a) ∧ k ⟨s.env.set i (.own (.lst ds)), s.st⟩
/-- for .. in enumerate(x), x the own list of slot i -/
def aForE (i : Nat) (t : Tgt) (b : ASt) : ASt := fun N s => match s.env[i]? with
  | some (.own (.lst ds)) => ∀ a : Addr, forG t b ⟨comesBack i a ds N.nx, N.rt, N.bk, N.ct⟩ (enumD 0 ds) ⟨s.env.set i (lent a), s.st⟩ ⟨⟩
  | _ => False
theorem NV.unguard {n : N} {v : V} (g : B.G p = none) (h : NV (B.gd p o) F al st H n v) : NV B F al st H n v := by
  cases n with
  | w w => exact h
  | new c =>
    obtain ⟨q, rfl, gq, C, ap⟩ := h
    refine ⟨q, rfl, ?_, C, ap⟩
    have gq : upd B.G p o q = none := gq
    by_cases z : q = p
    · subst z; rw [upd_same] at gq; cases gq
    · rw [upd_ne z] at gq; exact gq
theorem RS.forE {i : Nat} {g : TG} {t : Tgt} {tb : TS} {b : ASt} (hg : RG g t) (hb : RS Z tb b) : RS Z (tFor (iEnum K (tCons (tVar i) tNil)) g tb) (aForE i t b) := fun B hB D A rd F al s σ H X h => by
  unfold aForE at h
  split at h
  · rename_i ds e
    obtain ⟨a, ha, C, X1, A1⟩ := X.move e
    obtain ⟨f, o, ho, hc⟩ := id C
    cases hc with | lst dv => ?_
    rename_i vs
    have h := h a
    have X2 := X1.guard A1 ho
    have hB2 := hB.gd (o := .lst vs) A1.g
    have gB : B.G a = none := A1.g
    have X3 := X2.setSame (i := i) (v := .ref a) (w := .raw (.ref a) fun _ => True) ha ⟨rfl, trivial, fun _ _ _ _ => trivial⟩
    rw [show ((⟨s.env.set i .no, s.st⟩ : AS).env.set i (.v (.raw (.ref a) fun _ => True))) = s.env.set i (lent a) from List.set_set ..] at X3
    refine ⟨_, ha, a, vs, rfl, SqL.of ho, ?_⟩
    have hB3 := hB2.re X3.ex
    have X4 := X3.re
    have un : ∀ {F' al' s' σ' H'}, Rel ((B.gd a (.lst vs)).re F al s.st.length) F' al' s' σ' H' → Rel (B.gd a (.lst vs)) F' al' s' σ' H' := fun X' => X'.un X3.ex
    have unS : ∀ {F' al' st' H'}, RelS ((B.gd a (.lst vs)).re F al s.st.length) F' al' st' H' → RelS (B.gd a (.lst vs)) F' al' st' H' := fun X' => X'.un X3.ex
    have gA : ((B.gd a (.lst vs)).re F al s.st.length).G a = some (.lst vs) := upd_same
    have hx : ∀ {F' al' s' σ' H'}, Rel ((B.gd a (.lst vs)).re F al s.st.length) F' al' s' σ' H' → Same F F' := fun X' a o e => X'.ex.ff a o e
    generalize hB' : (B.gd a (.lst vs)).re F al s.st.length = B1 at hB3 X4 un gA hx unS
    have nvB : ∀ {F' al' st' H' n v}, NV B1 F' al' st' H' n v → NV (B.gd a (.lst vs)) F' al' st' H' n v := fun h => by rw [← hB'] at h; exact h
    refine for_it (walk_enum (K := K) (a := a) (xs := vs)) (fun j σ' H' => ∃ F' al' s', Rel B1 F' al' s' σ' H' ∧ forGo t b ⟨comesBack i a ds A.nx, A.rt, A.bk, A.ct⟩ ((enumD 0 ds).drop j) s') ⟨F, al, _, X4, h⟩ ?_ ?_ ?_
    · rintro j σ' H' _ ⟨F', al', s', X', _⟩
      exact SqL.of (X'.sg a _ gA)
    · rintro j y σ' H' H2 hlt ⟨F', al', s', X', h'⟩ ⟨T, x', y', e1, e2, e3, e4, e5⟩
      cases e4
      obtain ⟨d, e6, e7⟩ := dv.getV e5
      have yk : YOk F' H' (enumD 0 ds) j y H2 := .inr ⟨T, _, _, e1, e2, e3, enumD_get e6, .cons (by rw [Nat.zero_add]; exact .int _) (.cons (e7.mono (hx X')) .nil)⟩
      obtain ⟨F2, d2, x2, X2', e8, dv2, _⟩ := X'.item (F1 := F') (fun _ _ e => e) yk
      have hdr : (enumD 0 ds).drop j = d2 :: (enumD 0 ds).drop (j + 1) := by
        obtain ⟨hl, e⟩ := List.getElem?_eq_some_iff.mp e8
        rw [← e]; exact List.drop_eq_getElem_cons hl
      rw [hdr] at h'
      unfold forGo at h'
      cases z : bindT t d2 s'.env with
      | none => rw [z] at h'; exact h'.elim
      | some env' =>
        rw [z] at h'
        refine hg B1 F2 al' s' σ' H2 _ _ d2 env' X2' dv2 z fun σ3 X3' _ => ?_
        refine hb B1 hB3 _ ⟨forGo t b ⟨comesBack i a ds A.nx, A.rt, A.bk, A.ct⟩ ((enumD 0 ds).drop (j + 1)), A.rt, comesBack i a ds A.nx, forGo t b ⟨comesBack i a ds A.nx, A.rt, A.bk, A.ct⟩ ((enumD 0 ds).drop (j + 1))⟩ ?rd F2 al' _ σ3 H2 X3' h'
        refine ⟨?_, ?_, ?_, ?_⟩
        · intro F4 al4 s4 σ4 H4 X4 h4
          exact ⟨F4, al4, s4, X4, h4⟩
        · intro F4 al4 st4 H4 n v X4 nv h4
          exact rd.rt F4 al4 st4 H4 n v (RelS.unguard gB (unS X4)).1 (NV.unguard gB (nvB nv)) h4
        · intro F4 al4 s4 σ4 H4 X4 h4
          obtain ⟨k1, k2⟩ := h4
          have lx := hx X4
          obtain ⟨X5, e9, A5⟩ := (un X4).unguard gB
          obtain ⟨v, hv, ⟨hv2, _⟩⟩ := X5.ev i _ k1
          subst hv2
          have X6 := X5.setN i A5 ⟨A5.f, _, e9, .lst (dv.mono lx)⟩
          rw [set_same hv] at X6
          exact rd.nx F4 al4 _ σ4 H4 X6 k2
        · intro F4 al4 s4 σ4 H4 X4 h4
          exact ⟨F4, al4, s4, X4, h4⟩
    · rintro σ' H' ⟨F', al', s', X', h'⟩
      have hdn : (enumD 0 ds).drop vs.length = [] := by rw [dv.length, ← enumD_length (k := 0)]; exact List.drop_length
      rw [hdn] at h'
      unfold forGo at h'
      obtain ⟨k1, k2⟩ := h'
      have lx := hx X'
      obtain ⟨X5, e9, A5⟩ := (un X').unguard gB
      obtain ⟨v, hv, ⟨hv2, _⟩⟩ := X5.ev i _ k1
      subst hv2
      have X6 := X5.setN i A5 ⟨A5.f, _, e9, .lst (dv.mono lx)⟩
      rw [set_same hv] at X6
      exact rd.nx F' al' _ σ' H' X6 k2
  · exact h.elim
end
section
variable {α : Type}
theorem enumD_map (tD : α → D) : ∀ (k : Nat) (xs : List α), enumD k (xs.map tD) = (xs.zipIdx k).map fun p => .tup [.int (p.2 : Int), tD p.1]
  | _, [] => rfl
  | k, x :: xs => by rw [List.map_cons, enumD, enumD_map tD (k + 1) xs, List.zipIdx_cons, List.map_cons]
end
theorem dget_any {kds : List (Key × D)} {q : Key} : (dget (kds.map fun kv => kD kv.1) (kds.map (·.2)) q).isSome = kds.any fun kv => decide (kv.1 = q) := by
  induction kds with
  | nil => rfl
  | cons kv kds ih =>
    rw [List.map_cons, List.map_cons, dget, isK_k, List.any_cons, ← ih]
    by_cases h : kv.1 = q
    · rw [if_pos (decide_eq_true h), decide_eq_true h]; rfl
    · rw [if_neg (by rw [decide_eq_false h]; decide), decide_eq_false h]; rfl
theorem putZ_any {kds : List (Key × D)} {k q : Key} {v : D} : ((putZ kds k v).any fun kv => decide (kv.1 = q)) = (decide (k = q) || kds.any fun kv => decide (kv.1 = q)) := by
  have mp : ∀ kds : List (Key × D), ((kds.map fun kv => if kv.1 = k then (kv.1, v) else kv).any fun kv => decide (kv.1 = q)) = kds.any fun kv => decide (kv.1 = q) := fun kds => by
    induction kds with
    | nil => rfl
    | cons kv kds ih =>
      rw [List.map_cons, List.any_cons, List.any_cons, ih]
      by_cases h : kv.1 = k
      · rw [if_pos h]
      · rw [if_neg h]
  unfold putZ
  split
  · rename_i h
    rw [mp]
    by_cases e : k = q
    · subst e; rw [h]; simp
    · rw [decide_eq_false e]; rfl
  · rw [List.any_append, List.any_cons, List.any_nil, Bool.or_false, Bool.or_comm]
theorem putZ_len {kds : List (Key × D)} {k : Key} {v : D} : (putZ kds k v).length ≤ kds.length + 1 := by
  unfold putZ
  split
  · rw [List.length_map]; omega
  · rw [List.length_append, List.length_singleton]; omega
/-! ### the least -/
theorem minD_mem (x : PyData) : ∀ xs : List PyData, minD x xs = x ∨ minD x xs ∈ xs := by
  intro xs
  unfold minD
  induction xs generalizing x with
  | nil => exact .inl rfl
  | cons y ys ih =>
    rw [List.foldl_cons]
    split
    · rcases ih y with h | h
      · exact .inr (by rw [h]; exact List.mem_cons_self)
      · exact .inr (List.mem_cons_of_mem _ h)
    · rcases ih x with h | h
      · exact .inl h
      · exact .inr (List.mem_cons_of_mem _ h)
theorem minD_le (x : PyData) : ∀ xs : List PyData, ∀ y, (y = x ∨ y ∈ xs) → dataLt y (minD x xs) = false := by
  intro xs
  unfold minD
  induction xs generalizing x with
  | nil =>
    rintro y (rfl | h)
    · exact lex_irrefl _
    · cases h
  | cons z zs ih =>
    rintro y hy
    rw [List.foldl_cons]
    by_cases q : dataLt z x = true
    · rw [if_pos q]
      rcases hy with rfl | hy
      · -- y = x: z is below it
        cases w : dataLt y (zs.foldl (fun a y => if dataLt y a = true then y else a) z) with
        | false => rfl
        | true =>
          have := ih z z (.inl rfl)
          have tr : dataLt z (zs.foldl (fun a y => if dataLt y a = true then y else a) z) = true := lex_trans _ _ _ q w
          rw [tr] at this; cases this
      · rcases List.mem_cons.mp hy with rfl | hy
        · exact ih y y (.inl rfl)
        · exact ih z y (.inr hy)
    · rw [if_neg q]
      rcases hy with rfl | hy
      · exact ih y y (.inl rfl)
      · rcases List.mem_cons.mp hy with rfl | hy
        · cases w : dataLt y (zs.foldl (fun a y => if dataLt y a = true then y else a) x) with
          | false => rfl
          | true =>
            rcases lex_negTrans _ (PySem.W.keyToks x) _ w with h | h
            · exact (q h).elim
            · have := ih x x (.inl rfl)
              rw [show dataLt x (zs.foldl (fun a y => if dataLt y a = true then y else a) x) = true from h] at this; cases this
        · exact ih x y (.inr hy)
theorem q_bind_nm {i : Nat} {x : D} {env : List Sl} : bindT (.nm i) x env = some (env.set i (.v (.d x))) := by unfold bindT; rfl
theorem q_bind_tp {ts : List Tgt} {ds : List D} {env : List Sl} : bindT (.tp ts) (.tup ds) env = bindTs ts ds env := by unfold bindT; rfl
theorem q_binds_nil {env : List Sl} : bindTs [] [] env = some env := by unfold bindTs; rfl
theorem q_binds_cons {t : Tgt} {ts : List Tgt} {d : D} {ds : List D} {env : List Sl} : bindTs (t :: ts) (d :: ds) env = (match bindT t d env with
    | some env' => bindTs ts ds env'
    | none => none) := by
  conv => lhs; unfold bindTs
  all_goals (cases bindT t d env <;> rfl)
end Zi

set_option Elab.async false
set_option linter.all false
set_option maxRecDepth 100000
set_option maxHeartbeats 1000000
/-! K06M: exchanges, strangers, the same histories, the first order of one: plain Lean. -/
namespace K06
open PySem PySem.Spec PyProof.Rows L2 Zi
open PySem.W (minD dataLt alike alikeAll keyToks keyToksAll)
abbrev Exch := Str × Str × Str
def exD (e : Exch) : D := .tup [.str e.1, .str e.2.1, .str e.2.2]
def hasH (h : Str) (e : Exch) : Bool := e.1 == h || e.2.1 == h
def apart (a b : Exch) : Bool := !hasH a.1 b && !hasH a.2.1 b
def viewM (h : Str) (es : List Exch) : List Exch := es.filter (hasH h)
def SameV (a b : List Exch) : Prop := ∀ h, viewM h a = viewM h b
theorem SameV.refl (a : List Exch) : SameV a a := fun _ => rfl
theorem SameV.symm {a b : List Exch} (x : SameV a b) : SameV b a := fun h => (x h).symm
theorem SameV.trans {a b c : List Exch} (x : SameV a b) (y : SameV b c) : SameV a c := fun h => (x h).trans (y h)
theorem apart_iff {a b : Exch} : apart a b = true ↔ ∀ h, hasH h a = true → hasH h b = false := by
  unfold apart hasH
  simp only [Bool.and_eq_true, Bool.not_eq_true', Bool.or_eq_false_iff, Bool.or_eq_true, beq_iff_eq, beq_eq_false_iff_ne]
  constructor
  · rintro ⟨⟨h1, h2⟩, h3, h4⟩ h (rfl | rfl)
    · exact ⟨h1, h2⟩
    · exact ⟨h3, h4⟩
  · intro k
    exact ⟨k _ (.inl rfl), k _ (.inr rfl)⟩
theorem apart_comm (a b : Exch) : apart a b = apart b a := by
  have : ∀ a b, apart a b = true → apart b a = true := fun a b x => apart_iff.mpr fun h hb => by
    cases z : hasH h a with
    | false => rfl
    | true => have := apart_iff.mp x h z; rw [hb] at this; cases this
  cases x : apart a b with
  | true => exact (this a b x).symm
  | false =>
    cases y : apart b a with
    | false => rfl
    | true => rw [this b a y] at x; cases x
theorem apart_self (a : Exch) : apart a a = false := by
  unfold apart hasH
  simp
/-- by exchanging strangers that stand beside one another -/
inductive Reach : List Exch → List Exch → Prop
  | refl (a : List Exch) : Reach a a
  | step {a p q : List Exch} {x y : Exch} : Reach a (p ++ x :: y :: q) → apart x y = true → Reach a (p ++ y :: x :: q)
theorem Reach.trans {a b c : List Exch} (x : Reach a b) (y : Reach b c) : Reach a c := by
  induction y with
  | refl => exact x
  | step _ h ih => exact .step ih h
theorem Reach.cons {a b : List Exch} (e : Exch) (x : Reach a b) : Reach (e :: a) (e :: b) := by
  induction x with
  | refl => exact .refl _
  | step _ h ih => exact .step (p := e :: _) ih h
theorem view_app (h : Str) (a b : List Exch) : viewM h (a ++ b) = viewM h a ++ viewM h b := List.filter_append ..
theorem Reach.same {a b : List Exch} (x : Reach a b) : SameV a b := by
  induction x with
  | refl => exact SameV.refl _
  | step _ h ih =>
    rename_i p q x y _
    refine ih.trans fun k => ?_
    rw [view_app, view_app]
    congr 1
    unfold viewM
    rw [List.filter_cons, List.filter_cons, List.filter_cons, List.filter_cons]
    cases hx : hasH k x with
    | false => rfl
    | true => rw [apart_iff.mp h k hx]; rfl
/-- e may go to the front -/
theorem Reach.front : ∀ {b1 b2 : List Exch} {e : Exch}, (∀ x ∈ b1, apart x e = true) → Reach (b1 ++ e :: b2) (e :: (b1 ++ b2))
  | [], b2, e, _ => .refl _
  | x :: b1, b2, e, h => by
    have ih := Reach.front (b1 := b1) (b2 := b2) (e := e) fun y hy => h y (List.mem_cons_of_mem _ hy)
    exact .step (p := []) (ih.cons x) (h x List.mem_cons_self)
theorem Reach.back : ∀ {b1 b2 : List Exch} {e : Exch}, (∀ x ∈ b1, apart x e = true) → Reach (e :: (b1 ++ b2)) (b1 ++ e :: b2)
  | [], b2, e, _ => .refl _
  | x :: b1, b2, e, h => by
    have ih := Reach.back (b1 := b1) (b2 := b2) (e := e) fun y hy => h y (List.mem_cons_of_mem _ hy)
    have s : Reach (e :: x :: (b1 ++ b2)) (x :: e :: (b1 ++ b2)) := .step (p := []) (.refl _) (by rw [apart_comm]; exact h x List.mem_cons_self)
    exact s.trans (ih.cons x)
theorem filter_head {p : Exch → Bool} {e : Exch} : ∀ {b l : List Exch}, b.filter p = e :: l → ∃ b1 b2, b = b1 ++ e :: b2 ∧ (∀ x ∈ b1, p x = false) ∧ p e = true
  | [], _, h => by simp at h
  | x :: b, l, h => by
    rw [List.filter_cons] at h
    by_cases z : p x = true
    · rw [if_pos z] at h
      injection h with h1 h2
      subst h1
      exact ⟨[], b, rfl, by simp, z⟩
    · rw [if_neg z] at h
      obtain ⟨b1, b2, rfl, h1, h2⟩ := filter_head h
      refine ⟨x :: b1, b2, rfl, ?_, h2⟩
      intro y hy
      rcases List.mem_cons.mp hy with rfl | hy
      · simpa using z
      · exact h1 y hy
/-- what comes first in one is free in the other -/
theorem SameV.first {e : Exch} {a b : List Exch} (x : SameV (e :: a) b) : ∃ b1 b2, b = b1 ++ e :: b2 ∧ ∀ y ∈ b1, apart y e = true := by
  have hv : ∀ h, hasH h e = true → ∃ b1 b2, b = b1 ++ e :: b2 ∧ (∀ y ∈ b1, hasH h y = false) := fun h he => by
    have := x h
    unfold viewM at this
    rw [List.filter_cons, if_pos he] at this
    obtain ⟨b1, b2, h1, h2, _⟩ := filter_head this.symm
    exact ⟨b1, b2, h1, h2⟩
  obtain ⟨p1, p2, e1, h1⟩ := hv e.1 (by unfold hasH; simp)
  obtain ⟨q1, q2, e2, h2⟩ := hv e.2.1 (by unfold hasH; simp)
  have le1 : p1.length ≤ q1.length := by
    by_cases z : p1.length ≤ q1.length
    · exact z
    · have : e ∈ p1 := by
        have g : b[q1.length]? = some e := by rw [e2]; simp
        rw [e1, List.getElem?_append_left (by omega)] at g
        exact List.mem_of_getElem? g
      have := h1 e this
      unfold hasH at this
      simp at this
  have le2 : q1.length ≤ p1.length := by
    by_cases z : q1.length ≤ p1.length
    · exact z
    · have : e ∈ q1 := by
        have g : b[p1.length]? = some e := by rw [e1]; simp
        rw [e2, List.getElem?_append_left (by omega)] at g
        exact List.mem_of_getElem? g
      have := h2 e this
      unfold hasH at this
      simp at this
  have pq : p1 = q1 := (List.append_inj (e1.symm.trans e2) (by omega)).1
  refine ⟨p1, p2, e1, fun y hy => ?_⟩
  rw [apart_comm]
  unfold apart
  rw [h1 y hy, h2 y (by rw [← pq]; exact hy)]
  rfl
theorem SameV.tail {e : Exch} {a b1 b2 : List Exch} (x : SameV (e :: a) (b1 ++ e :: b2)) (h : ∀ y ∈ b1, apart y e = true) : SameV a (b1 ++ b2) := fun k => by
  have := x.trans (Reach.front h).same k
  unfold viewM at this ⊢
  rw [List.filter_cons, List.filter_cons] at this
  by_cases z : hasH k e = true
  · rw [if_pos z, if_pos z] at this
    injection this
  · rw [if_neg z, if_neg z] at this
    exact this
theorem SameV.reach : ∀ {a b : List Exch}, SameV a b → Reach a b
  | [], b, x => by
    cases b with
    | nil => exact .refl _
    | cons e b =>
      have := x e.1
      unfold viewM at this
      rw [List.filter_cons, if_pos (by unfold hasH; simp)] at this
      cases this
  | e :: a, b, x => by
    obtain ⟨b1, b2, rfl, h⟩ := x.first
    exact ((SameV.reach (x.tail h)).cons e).trans (Reach.back h)
/-! ### the order -/
def pE (e : Exch) : PyData := py (exD e)
def lt (a b : Exch) : Bool := dataLt (pE a) (pE b)
def pL (es : List Exch) : PyData := .list (es.map pE)
def llt (a b : List Exch) : Bool := dataLt (pL a) (pL b)
theorem pE_eqv (a b : Exch) : PyData.eqv (pE a) (pE b) = decide (a = b) := by
  obtain ⟨a1, a2, a3⟩ := a
  obtain ⟨b1, b2, b3⟩ := b
  have e : PyData.eqv (pE (a1, a2, a3)) (pE (b1, b2, b3)) = (PyData.eqv (.str a1) (.str b1) && (PyData.eqv (.str a2) (.str b2) && (PyData.eqv (.str a3) (.str b3) && true))) := by simp only [pE, exD, py, pyAll, PyData.eqv, PyData.eqvAll]
  rw [e, Ly.eqv_str, Ly.eqv_str, Ly.eqv_str, Bool.and_true, ← Bool.decide_and, ← Bool.decide_and]
  exact decide_eq_decide.mpr (by simp only [Prod.mk.injEq])
theorem pE_alike (a b : Exch) : alike (pE a) (pE b) = true := rfl
theorem pL_alike : ∀ a b : List Exch, alikeAll (a.map pE) (b.map pE) = true
  | [], [] => rfl
  | [], _ :: _ => rfl
  | _ :: _, [] => rfl
  | x :: a, y :: b => by
    show (alike (pE x) (pE y) && alikeAll (a.map pE) (b.map pE)) = true
    rw [pE_alike, pL_alike a b]; rfl
theorem llt_cons (x y : Exch) (a b : List Exch) : llt (x :: a) (y :: b) = if x = y then llt a b else lt x y := by
  unfold llt pL
  rw [PySem.W.dataLt_list, PySem.W.dataLt_list, List.map_cons, List.map_cons]
  by_cases h : x = y
  · rw [if_pos h, PySem.W.dataLt_all_yes (pE_alike x y) (by rw [pE_eqv]; exact decide_eq_true h)]
  · rw [if_neg h, PySem.W.dataLt_all_no (pE_alike x y) (by rw [pE_eqv]; exact decide_eq_false h)]; rfl
theorem lt_irrefl (a : Exch) : lt a a = false := lex_irrefl _
theorem lt_total {a b : Exch} (h1 : lt a b = false) (h2 : lt b a = false) : a = b := by
  have e := lex_total _ _ h1 h2
  by_cases z : a = b
  · exact z
  · have q := (PySem.W.toks_eqv (pE a) (pE b) (pE_alike a b)).2 (by rw [pE_eqv]; exact decide_eq_false z) [] [Sum.inl 0]
    rw [e, PySem.W.lex_pre, lex_irrefl] at q
    cases q
theorem llt_irrefl (a : List Exch) : llt a a = false := lex_irrefl _
theorem llt_trans {a b c : List Exch} (h1 : llt a b = true) (h2 : llt b c = true) : llt a c = true := lex_trans _ _ _ h1 h2
/-! ### the first order -/
def FreeAt (r : List Exch) (k : Nat) (e : Exch) : Prop := r[k]? = some e ∧ ∀ x ∈ r.take k, apart x e = true
inductive Greedy : List Exch → List Exch → Prop
  | nil : Greedy [] []
  | cons {r o : List Exch} {k : Nat} {e : Exch} : FreeAt r k e → (∀ k' e', FreeAt r k' e' → lt e' e = false) → Greedy (r.eraseIdx k) o → Greedy r (e :: o)
theorem FreeAt.split {r : List Exch} {k : Nat} {e : Exch} (h : FreeAt r k e) : r = r.take k ++ e :: r.drop (k + 1) ∧ r.eraseIdx k = r.take k ++ r.drop (k + 1) := by
  obtain ⟨hl, he⟩ := List.getElem?_eq_some_iff.mp h.1
  refine ⟨?_, List.eraseIdx_eq_take_drop_succ ..⟩
  rw [← he, ← List.drop_eq_getElem_cons hl, List.take_append_drop]
theorem Greedy.same {r o : List Exch} (g : Greedy r o) : SameV r o := by
  induction g with
  | nil => exact SameV.refl _
  | cons f m g ih =>
    rename_i r o k e
    obtain ⟨h1, h2⟩ := f.split
    have s1 : SameV r (e :: (r.take k ++ r.drop (k + 1))) := by
      have := (Reach.front (b1 := r.take k) (b2 := r.drop (k + 1)) f.2).same
      rw [← h1] at this
      exact this
    refine s1.trans fun h => ?_
    have := ih h
    rw [h2] at this
    unfold viewM at this ⊢
    rw [List.filter_cons, List.filter_cons, this]
theorem Greedy.least {r o : List Exch} (g : Greedy r o) : ∀ c, SameV r c → c = o ∨ llt o c = true := by
  induction g with
  | nil =>
    intro c x
    have := SameV.reach x
    cases c with
    | nil => exact .inl rfl
    | cons e c =>
      have := x e.1
      unfold viewM at this
      rw [List.filter_cons, if_pos (by unfold hasH; simp)] at this
      cases this
  | cons f m g ih =>
    rename_i r o k e
    intro c x
    cases c with
    | nil =>
      have := x e.1
      unfold viewM at this
      have hm : e ∈ r.filter (hasH e.1) := List.mem_filter.mpr ⟨List.mem_of_getElem? f.1, by unfold hasH; simp⟩
      rw [this] at hm; cases hm
    | cons y c =>
      obtain ⟨b1, b2, e1, h1⟩ := x.symm.first
      have fy : FreeAt r b1.length y := by
        refine ⟨by rw [e1]; simp, ?_⟩
        rw [e1, List.take_left]
        exact h1
      by_cases z : y = e
      · subst z
        have hk : b1.length = k := by
          have lt1 : ¬ b1.length < k := fun hlt => by
            have := f.2 y (by
              have g1 := fy.1
              rw [← List.getElem?_take_of_lt hlt] at g1
              exact List.mem_of_getElem? g1)
            rw [apart_self] at this; cases this
          have lt2 : ¬ k < b1.length := fun hlt => by
            have := fy.2 y (by
              have g1 := f.1
              rw [← List.getElem?_take_of_lt hlt] at g1
              exact List.mem_of_getElem? g1)
            rw [apart_self] at this; cases this
          omega
        have er : r.eraseIdx k = b1 ++ b2 := by
          rw [← hk, e1, List.eraseIdx_append_of_length_le (Nat.le_refl _)]
          simp
        have sx : SameV (r.eraseIdx k) c := by
          rw [er]
          rw [e1] at x
          exact (x.symm.tail h1).symm
        rcases ih c sx with q | q
        · exact .inl (by rw [q])
        · refine .inr ?_
          rw [llt_cons, if_pos rfl]; exact q
      · refine .inr ?_
        rw [llt_cons, if_neg (fun q => z q.symm)]
        cases q : lt e y with
        | true => rfl
        | false => exact (z (lt_total (m _ _ fy) q)).elim
theorem Greedy.uniq {r r' o o' : List Exch} (g : Greedy r o) (g' : Greedy r' o') (x : SameV r r') : o = o' := by
  rcases g.least o' (x.trans g'.same) with h | h
  · exact h.symm
  · rcases g'.least o (x.symm.trans g.same) with h' | h'
    · exact h'
    · have := llt_trans h h'
      rw [llt_irrefl] at this; cases this
theorem map_erase {α β : Type} {f : α → β} : ∀ {xs : List α} {i : Nat}, (xs.eraseIdx i).map f = (xs.map f).eraseIdx i
  | [], _ => rfl
  | _ :: _, 0 => rfl
  | x :: xs, i + 1 => by rw [List.map_cons, List.eraseIdx_cons_succ, List.eraseIdx_cons_succ, List.map_cons, map_erase]
theorem zip_at {α : Type} {xs : List α} {pre ys : List (α × Nat)} {x : α} {i : Nat} (h : xs.zipIdx = pre ++ (x, i) :: ys) : i = pre.length ∧ xs[i]? = some x ∧ xs.take i = pre.map (·.1) := by
  have e1 : (xs.zipIdx)[pre.length]? = some (x, i) := by rw [h]; simp
  rw [List.getElem?_zipIdx] at e1
  have e2 : xs = pre.map (·.1) ++ x :: ys.map (·.1) := by
    have : xs.zipIdx.map (·.1) = xs := by simp
    rw [← this, h]
    simp
  have e3 : i = pre.length := by
    cases z : xs[pre.length]? with
    | none => rw [z] at e1; cases e1
    | some y => rw [z] at e1; simp at e1; exact e1.2.symm
  refine ⟨e3, ?_, ?_⟩
  · rw [e3, e2]; simp
  · rw [e3, e2]; simp
theorem free_iff {rest : List Exch} {pre ys : List (Exch × Nat)} {x : Exch} {i : Nat} (h : rest.zipIdx = pre ++ (x, i) :: ys) : FreeAt rest i x ↔ ¬ (∃ p ∈ pre, hasH x.1 p.1 = true) ∧ ¬ (∃ p ∈ pre, hasH x.2.1 p.1 = true) := by
  obtain ⟨_, h2, h3⟩ := zip_at h
  unfold FreeAt
  rw [h3]
  constructor
  · rintro ⟨_, k⟩
    refine ⟨fun ⟨p, hp, q⟩ => ?_, fun ⟨p, hp, q⟩ => ?_⟩
    · have := k p.1 (List.mem_map.mpr ⟨p, hp, rfl⟩)
      rw [apart_comm] at this
      unfold apart at this
      rw [q] at this; cases this
    · have := k p.1 (List.mem_map.mpr ⟨p, hp, rfl⟩)
      rw [apart_comm] at this
      unfold apart at this
      rw [q, Bool.and_comm] at this; cases this
  · rintro ⟨k1, k2⟩
    refine ⟨h2, fun y hy => ?_⟩
    obtain ⟨p, hp, rfl⟩ := List.mem_map.mp hy
    rw [apart_comm]
    unfold apart
    rw [Bool.eq_false_iff.mpr fun z => k1 ⟨p, hp, z⟩, Bool.eq_false_iff.mpr fun z => k2 ⟨p, hp, z⟩]; rfl
/-! ### the least of pairs -/
def pairD (p : Exch × Nat) : D := .tup [exD p.1, .int (p.2 : Int)]
theorem pair_alike (p q : Exch × Nat) : alike (py (pairD p)) (py (pairD q)) = true := rfl
theorem pair_eqv (p q : Exch × Nat) : PyData.eqv (py (pairD p)) (py (pairD q)) = decide (p = q) := by
  obtain ⟨a, i⟩ := p
  obtain ⟨b, j⟩ := q
  have e : PyData.eqv (py (pairD (a, i))) (py (pairD (b, j))) = (PyData.eqv (pE a) (pE b) && (PyData.eqv (.int i) (.int j) && true)) := by simp only [pairD, py, pyAll, PyData.eqv, PyData.eqvAll, pE]
  rw [e, pE_eqv, Bool.and_true]
  have : PyData.eqv (.int (i : Int)) (.int (j : Int)) = decide (i = j) := by
    simp only [PyData.eqv]
    by_cases h : i = j
    · subst h; simp
    · rw [decide_eq_false h]
      exact beq_eq_false_iff_ne.mpr (by omega)
  rw [this, ← Bool.decide_and]
  exact decide_eq_decide.mpr (by simp only [Prod.mk.injEq])
theorem pair_lt {p q : Exch × Nat} (h : dataLt (py (pairD p)) (py (pairD q)) = false) : lt p.1 q.1 = false := by
  obtain ⟨a, i⟩ := p
  obtain ⟨b, j⟩ := q
  by_cases e : a = b
  · subst e; exact lt_irrefl _
  · have := PySem.W.dataLt_pair (x := pE a) (x' := pE b) (y := .int i) (y' := .int j) (pE_alike a b) rfl
    rw [pE_eqv, decide_eq_false e] at this
    have h2 : dataLt (.tuple [pE a, .int i]) (.tuple [pE b, .int j]) = false := h
    rw [h2] at this
    exact this.symm
theorem pairs_min {p0 : Exch × Nat} {ps : List (Exch × Nat)} {m : Exch × Nat} (h : py (pairD m) = minD (py (pairD p0)) (ps.map fun p => py (pairD p))) : ∀ p ∈ p0 :: ps, lt p.1 m.1 = false := fun p hp => by
  refine pair_lt ?_
  rw [h]
  refine minD_le _ _ _ ?_
  rcases List.mem_cons.mp hp with rfl | hp
  · exact .inl rfl
  · exact .inr (List.mem_map.mpr ⟨p, hp, rfl⟩)
theorem pairs_ok {ps : List (Exch × Nat)} : PyData.plainAll (ps.map fun p => py (pairD p)) = true ∧ PySem.W.AlikeAll (ps.map fun p => py (pairD p)) ∧ PyData.depthAll (ps.map fun p => py (pairD p)) ≤ 60 := by
  refine ⟨?_, ⟨fun x hx y hy => ?_, fun x hx => ?_⟩, ?_⟩
  · induction ps with
    | nil => rfl
    | cons p ps ih => rw [List.map_cons, PyData.plainAll, ih]; rfl
  · obtain ⟨p, _, rfl⟩ := List.mem_map.mp hx
    obtain ⟨q, _, rfl⟩ := List.mem_map.mp hy
    exact pair_alike p q
  · obtain ⟨p, _, rfl⟩ := List.mem_map.mp hx
    exact fun z => nomatch z
  · have : ∀ ps : List (Exch × Nat), PyData.depthAll (ps.map fun p => py (pairD p)) ≤ 2 := fun ps => by
      induction ps with
      | nil => exact Nat.zero_le _
      | cons p ps ih =>
        rw [List.map_cons, PyData.depthAll]
        exact Nat.max_le.mpr ⟨by show (2 : Nat) ≤ 2; exact Nat.le_refl _, ih⟩
    exact Nat.le_trans (this ps) (by decide)
theorem pyAll_pairs (ps : List (Exch × Nat)) : pyAll (ps.map pairD) = ps.map fun p => py (pairD p) := by rw [pyAll_map, List.map_map]; rfl
end K06

set_option Elab.async false
set_option linter.all false
set_option maxRecDepth 100000
set_option maxHeartbeats 400000
set_option pp.deepTerms false
set_option pp.maxSteps 400
namespace K06
open PySem PySem.Spec PyProof.Rows L2 Ly Zi Zs Lc
open PySem.W (minD AlikeAll)
def topS (i : Nat) : Stmt := PySem.Challenge.pw_talkwatch_k06_same_and_first.main.body.getD i (.Pass ⟨0, 0, 0, 0⟩)
abbrev s_strangers : Stmt := topS 1
theorem sc_strangers : FnScope ["one", "other"] ["one", "other"] (defScope s_strangers) := ⟨rfl, rfl, rfl, by decide +kernel, rfl, by decide +kernel, by decide +kernel⟩
abbrev s_hands_in : Stmt := topS 2
theorem sc_hands_in : FnScope ["history", "exchange", "hand"] ["history"] (defScope s_hands_in) := ⟨rfl, rfl, rfl, by decide +kernel, rfl, by decide +kernel, by decide +kernel⟩
abbrev s_same : Stmt := topS 3
theorem sc_same : FnScope ["one", "other", "hand", "each"] ["one", "other"] (defScope s_same) := ⟨rfl, rfl, rfl, by decide +kernel, rfl, by decide +kernel, by decide +kernel⟩
abbrev s_first_order : Stmt := topS 4
theorem sc_first_order : FnScope ["history", "rest", "found", "busy", "free", "number", "exchange"] ["history"] (defScope s_first_order) := ⟨rfl, rfl, rfl, by decide +kernel, rfl, by decide +kernel, by decide +kernel⟩
abbrev s_law_at : Stmt := topS 6
theorem sc_law_at : FnScope ["_law_script", "_law_k"] ["_law_script", "_law_k"] (defScope s_law_at) := ⟨rfl, rfl, rfl, by decide +kernel, rfl, by decide +kernel, by decide +kernel⟩
abbrev s_law_mixed : Stmt := topS 7
theorem sc_law_mixed : FnScope ["_law_cell", "_law_k", "_law_number"] ["_law_cell", "_law_k"] (defScope s_law_mixed) := ⟨rfl, rfl, rfl, by decide +kernel, rfl, by decide +kernel, by decide +kernel⟩
abbrev s_law_purse : Stmt := topS 8
theorem sc_law_purse : FnScope ["_law_script", "_law_at_here", "_law_cell"] ["_law_script", "_law_at_here"] (defScope s_law_purse) := ⟨rfl, rfl, rfl, by decide +kernel, rfl, by decide +kernel, by decide +kernel⟩
abbrev s_law_draw : Stmt := topS 9
theorem sc_law_draw : FnScope ["_law_purse_here", "_law_out_of", "_law_drawn", "_law_number", "_law_k"] ["_law_purse_here", "_law_out_of"] (defScope s_law_draw) := ⟨rfl, rfl, rfl, by decide +kernel, rfl, by decide +kernel, by decide +kernel⟩
abbrev s_law_order : Stmt := topS 10
theorem sc_law_order : FnScope ["_law_purse_here", "_law_some", "_law_rest", "_law_found"] ["_law_purse_here", "_law_some"] (defScope s_law_order) := ⟨rfl, rfl, rfl, by decide +kernel, rfl, by decide +kernel, by decide +kernel⟩
abbrev s_law_names : Stmt := topS 11
theorem sc_law_names : FnScope ["_law_purse_here", "_law_many", "_law_some"] ["_law_purse_here", "_law_many"] (defScope s_law_names) := ⟨rfl, rfl, rfl, by decide +kernel, rfl, by decide +kernel, by decide +kernel⟩
abbrev s_law_swapped : Stmt := topS 12
theorem sc_law_swapped : FnScope ["_law_purse_here", "_law_history", "_law_found", "_law_turn", "_law_k", "_law_near", "_law_name"] ["_law_purse_here", "_law_history"] (defScope s_law_swapped) := ⟨rfl, rfl, rfl, by decide +kernel, rfl, by decide +kernel, by decide +kernel⟩
abbrev s_law_apart : Stmt := topS 13
theorem sc_law_apart : FnScope ["_law_one", "_law_other", "_law_name"] ["_law_one", "_law_other"] (defScope s_law_apart) := ⟨rfl, rfl, rfl, by decide +kernel, rfl, by decide +kernel, by decide +kernel⟩
abbrev s_law_all_orders : Stmt := topS 14
theorem sc_law_all_orders : FnScope ["_law_history", "_law_most", "_law_found", "_law_at_here", "_law_k", "_law_more"] ["_law_history", "_law_most"] (defScope s_law_all_orders) := ⟨rfl, rfl, rfl, by decide +kernel, rfl, by decide +kernel, by decide +kernel⟩
abbrev s_law_views_same : Stmt := topS 15
theorem sc_law_views_same : FnScope ["_law_one", "_law_other", "_law_people", "_law_name", "_law_mine", "_law_exchange_here"] ["_law_one", "_law_other", "_law_people"] (defScope s_law_views_same) := ⟨rfl, rfl, rfl, by decide +kernel, rfl, by decide +kernel, by decide +kernel⟩
abbrev s_law_earliest : Stmt := topS 16
theorem sc_law_earliest : FnScope ["_law_history", "_law_rest", "_law_found", "_law_free", "_law_k", "_law_best", "_law_at_here", "_law_exchange_here"] ["_law_history"] (defScope s_law_earliest) := ⟨rfl, rfl, rfl, by decide +kernel, rfl, by decide +kernel, by decide +kernel⟩
abbrev s_law_exchange : Stmt := topS 17
theorem sc_law_exchange : FnScope ["_law_purse_here", "_law_people", "_law_pair"] ["_law_purse_here", "_law_people"] (defScope s_law_exchange) := ⟨rfl, rfl, rfl, by decide +kernel, rfl, by decide +kernel, by decide +kernel⟩
abbrev s_law_second : Stmt := topS 18
theorem sc_law_second : FnScope ["_law_purse_here", "_law_history", "_law_people", "_law_way", "_law_at_here"] ["_law_purse_here", "_law_history", "_law_people"] (defScope s_law_second) := ⟨rfl, rfl, rfl, by decide +kernel, rfl, by decide +kernel, by decide +kernel⟩
abbrev s_law_right : Stmt := topS 19
theorem sc_law_right : FnScope ["_law_one", "_law_other", "_law_people", "_law_stayed", "_law_due", "_law_told", "_law_orders", "_law_turn", "_law_found", "_law_truth"] ["_law_one", "_law_other", "_law_people"] (defScope s_law_right) := ⟨rfl, rfl, rfl, by decide +kernel, rfl, by decide +kernel, by decide +kernel⟩
abbrev s_law : Stmt := topS 20
theorem sc_law : FnScope ["_law_script", "_law_cell", "_law_purse_here", "_law_people", "_law_history", "_law_turn", "_law_first", "_law_second_here", "_law_k"] ["_law_script"] (defScope s_law) := ⟨rfl, rfl, rfl, by decide +kernel, rfl, by decide +kernel, by decide +kernel⟩
structure Top (K : PySem.W.Frag) (mg : Str → Option Value) where
  a_strangers : Addr
  fd_strangers : FuncData
  F_strangers : Fun K "strangers" "strangers" s_strangers a_strangers fd_strangers
  b_strangers : Binds K fd_strangers ["one", "other"] []
  g_strangers : mg "strangers" = some (.ref a_strangers)
  a_hands_in : Addr
  fd_hands_in : FuncData
  F_hands_in : Fun K "hands_in" "hands_in" s_hands_in a_hands_in fd_hands_in
  b_hands_in : Binds K fd_hands_in ["history"] []
  g_hands_in : mg "hands_in" = some (.ref a_hands_in)
  a_same : Addr
  fd_same : FuncData
  F_same : Fun K "same" "same" s_same a_same fd_same
  b_same : Binds K fd_same ["one", "other"] []
  g_same : mg "same" = some (.ref a_same)
  a_first_order : Addr
  fd_first_order : FuncData
  F_first_order : Fun K "first_order" "first_order" s_first_order a_first_order fd_first_order
  b_first_order : Binds K fd_first_order ["history"] []
  g_first_order : mg "first_order" = some (.ref a_first_order)
  a_law_at : Addr
  fd_law_at : FuncData
  F_law_at : Fun K "_law_at" "_law_at" s_law_at a_law_at fd_law_at
  b_law_at : Binds K fd_law_at ["_law_script", "_law_k"] []
  g_law_at : mg "_law_at" = some (.ref a_law_at)
  a_law_mixed : Addr
  fd_law_mixed : FuncData
  F_law_mixed : Fun K "_law_mixed" "_law_mixed" s_law_mixed a_law_mixed fd_law_mixed
  b_law_mixed : Binds K fd_law_mixed ["_law_cell", "_law_k"] []
  g_law_mixed : mg "_law_mixed" = some (.ref a_law_mixed)
  a_law_purse : Addr
  fd_law_purse : FuncData
  F_law_purse : Fun K "_law_purse" "_law_purse" s_law_purse a_law_purse fd_law_purse
  b_law_purse : Binds K fd_law_purse ["_law_script", "_law_at_here"] []
  g_law_purse : mg "_law_purse" = some (.ref a_law_purse)
  a_law_draw : Addr
  fd_law_draw : FuncData
  F_law_draw : Fun K "_law_draw" "_law_draw" s_law_draw a_law_draw fd_law_draw
  b_law_draw : Binds K fd_law_draw ["_law_purse_here", "_law_out_of"] []
  g_law_draw : mg "_law_draw" = some (.ref a_law_draw)
  a_law_order : Addr
  fd_law_order : FuncData
  F_law_order : Fun K "_law_order" "_law_order" s_law_order a_law_order fd_law_order
  b_law_order : Binds K fd_law_order ["_law_purse_here", "_law_some"] []
  g_law_order : mg "_law_order" = some (.ref a_law_order)
  a_law_names : Addr
  fd_law_names : FuncData
  F_law_names : Fun K "_law_names" "_law_names" s_law_names a_law_names fd_law_names
  b_law_names : Binds K fd_law_names ["_law_purse_here", "_law_many"] []
  g_law_names : mg "_law_names" = some (.ref a_law_names)
  a_law_swapped : Addr
  fd_law_swapped : FuncData
  F_law_swapped : Fun K "_law_swapped" "_law_swapped" s_law_swapped a_law_swapped fd_law_swapped
  b_law_swapped : Binds K fd_law_swapped ["_law_purse_here", "_law_history"] []
  g_law_swapped : mg "_law_swapped" = some (.ref a_law_swapped)
  a_law_apart : Addr
  fd_law_apart : FuncData
  F_law_apart : Fun K "_law_apart" "_law_apart" s_law_apart a_law_apart fd_law_apart
  b_law_apart : Binds K fd_law_apart ["_law_one", "_law_other"] []
  g_law_apart : mg "_law_apart" = some (.ref a_law_apart)
  a_law_all_orders : Addr
  fd_law_all_orders : FuncData
  F_law_all_orders : Fun K "_law_all_orders" "_law_all_orders" s_law_all_orders a_law_all_orders fd_law_all_orders
  b_law_all_orders : Binds K fd_law_all_orders ["_law_history", "_law_most"] []
  g_law_all_orders : mg "_law_all_orders" = some (.ref a_law_all_orders)
  a_law_views_same : Addr
  fd_law_views_same : FuncData
  F_law_views_same : Fun K "_law_views_same" "_law_views_same" s_law_views_same a_law_views_same fd_law_views_same
  b_law_views_same : Binds K fd_law_views_same ["_law_one", "_law_other", "_law_people"] []
  g_law_views_same : mg "_law_views_same" = some (.ref a_law_views_same)
  a_law_earliest : Addr
  fd_law_earliest : FuncData
  F_law_earliest : Fun K "_law_earliest" "_law_earliest" s_law_earliest a_law_earliest fd_law_earliest
  b_law_earliest : Binds K fd_law_earliest ["_law_history"] []
  g_law_earliest : mg "_law_earliest" = some (.ref a_law_earliest)
  a_law_exchange : Addr
  fd_law_exchange : FuncData
  F_law_exchange : Fun K "_law_exchange" "_law_exchange" s_law_exchange a_law_exchange fd_law_exchange
  b_law_exchange : Binds K fd_law_exchange ["_law_purse_here", "_law_people"] []
  g_law_exchange : mg "_law_exchange" = some (.ref a_law_exchange)
  a_law_second : Addr
  fd_law_second : FuncData
  F_law_second : Fun K "_law_second" "_law_second" s_law_second a_law_second fd_law_second
  b_law_second : Binds K fd_law_second ["_law_purse_here", "_law_history", "_law_people"] []
  g_law_second : mg "_law_second" = some (.ref a_law_second)
  a_law_right : Addr
  fd_law_right : FuncData
  F_law_right : Fun K "_law_right" "_law_right" s_law_right a_law_right fd_law_right
  b_law_right : Binds K fd_law_right ["_law_one", "_law_other", "_law_people"] []
  g_law_right : mg "_law_right" = some (.ref a_law_right)
  a_law : Addr
  fd_law : FuncData
  F_law : Fun K "law" "law" s_law a_law fd_law
  b_law : Binds K fd_law ["_law_script"] []
  g_law : mg "law" = some (.ref a_law)
  z_bool : mg "bool" = none
  z_enumerate : mg "enumerate" = none
  z_isinstance : mg "isinstance" = none
  z_len : mg "len" = none
  z_list : mg "list" = none
  z_max : mg "max" = none
  z_min : mg "min" = none
  z_range : mg "range" = none
  z_sorted : mg "sorted" = none
theorem eqD_str (a b : Str) : eqD (.str a) (.str b) = (a == b) := rfl
theorem inD2 (h a b : Str) : inD (.str h) [.str a, .str b] = (a == h || b == h) := by
  unfold inD
  simp only [List.any_cons, List.any_nil, eqD_str, Bool.or_false]
theorem cut2 {a b : D} {l : List D} : cutZ (a :: b :: l) none (some 2) = [a, b] := by
  unfold cutZ
  have : HT.sIx (a :: b :: l).length (a :: b :: l).length (some 2) = 2 := by
    rw [show (2 : Int) = ((2 : Nat) : Int) from rfl, HT.sIx_nat]
    simp only [List.length_cons]; omega
  rw [this, HT.sIx_none]
  rfl
theorem part32 : partT (0 + 1 + 1 + 1) none (some 2) = True := eq_true (by unfold partT; decide)
theorem all_str2 {a b : Str} : [D.str a, D.str b].all okD = true := rfl
local macro_rules | `(tactic| walk_at "z") => `(tactic| simp (config := { dsimp := false }) only [aSeq, aIf, aT, aYes, aAnd, aOr, aNot, aOp, aOpL, aUn, aVar, aC, aRaw, aMove, pk, q_peek_w, q_peek_s, q_peekW_d, q_peekW_loc, q_cellD_lst, q_cellD_dic, ↓q_toW_w, q_toW_w, ↓q_toW_s, q_toW_s, ↓q_toL_w, q_toL_w, ↓q_toL_s, q_toL_s, ↓q_nToW_w, q_nToW_w, ↓q_nToW_lst, q_nToW_lst, ↓q_nToW_dic, q_nToW_dic, q_put_w, q_put_n, q_getC_loc, q_getC_s, q_putC_loc, q_putC_s, aFz, aN, aAsg, aAsgT, q_bind_nm, q_bind_tp, q_binds_nil, q_binds_cons, aRet, aRetN, aDrop, aDropN, aNext, aBreak, aCont, aAug, aSetIx, aDPut, aCall, aCons, aConsL, aNil, aLst, aTup, lstC, wsD, rCons, rNil, pks, aCB, aCBL, aBM, aBM0, isL, mAppend, mPop, mPopAt,
  aSlL, aSlT, aRevL, aNo, aSome, aAndV, aOrV, aNotV, aIfE, aChain, aDIn, aDGet, aDNew, withDic, Zi.keyOf, cut2, part32, eqD_str, inD2, all_str2, aFor, aForE, comesBack, aLc, aSortSet, aPutS, aCl, aIL, aIT, aIR1, aIR2, aIE, aIZ, aIS, wipeE, backE,
  oAdd, oSub, oMul, oMulW, oMod, oDiv, oDivW, oPow, oLt, oLe, oGt, oGe, oI, oIc, oEq, oNe, oIn, oIx, oCat, oAddS, oInS, oIs, oIsNot, oIsB, oIsNB, isNon, oNeg, oBits, bLen, bList, bMax2, bMin2, bMin, aIsi, aSetSl, tyN, kit_NoneType_bool, kit_NoneType_int, kit_NoneType_str, kit_NoneType_list, kit_NoneType_tuple, kit_NoneType_dict, kit_bool_bool, kit_bool_int, kit_bool_str, kit_bool_list, kit_bool_tuple, kit_bool_dict, kit_int_bool, kit_int_int, kit_int_str, kit_int_list, kit_int_tuple, kit_int_dict, kit_str_bool, kit_str_int, kit_str_str, kit_str_list, kit_str_tuple, kit_str_dict, kit_list_bool, kit_list_int, kit_list_str, kit_list_list, kit_list_tuple, kit_list_dict, kit_tuple_bool, kit_tuple_int, kit_tuple_str, kit_tuple_list, kit_tuple_tuple, kit_tuple_dict, kit_dict_bool, kit_dict_int, kit_dict_str, kit_dict_list, kit_dict_tuple, kit_dict_dict, 
  List.getElem?_cons_zero, List.getElem?_cons_succ, List.set_cons_zero, List.set_cons_succ, List.length_cons, List.length_nil, List.set_set, List.getElem?_set_self, Nat.zero_le, okD_nil, okD_str, okD_int, okD_bl, okD_non, ea0, at0, at1, at2, at3, ix0, ix1, ix2, true_and, and_true, Bool.false_eq_true, Bool.not_true, Bool.not_false, ↓reduceIte, *])
local macro_rules | `(tactic| walk_at "y") => `(tactic| simp only [aSeq, aIf, aT, aYes, aAnd, aOr, aNot, aOp, aOpL, aUn, aVar, aC, aRaw, aMove, pk, q_peek_w, q_peek_s, q_peekW_d, q_peekW_loc, q_cellD_lst, q_cellD_dic, ↓q_toW_w, q_toW_w, ↓q_toW_s, q_toW_s, ↓q_toL_w, q_toL_w, ↓q_toL_s, q_toL_s, ↓q_nToW_w, q_nToW_w, ↓q_nToW_lst, q_nToW_lst, ↓q_nToW_dic, q_nToW_dic, q_put_w, q_put_n, q_getC_loc, q_getC_s, q_putC_loc, q_putC_s, aFz, aN, aAsg, aAsgT, q_bind_nm, q_bind_tp, q_binds_nil, q_binds_cons, aRet, aRetN, aDrop, aDropN, aNext, aBreak, aCont, aAug, aSetIx, aDPut, aCall, aCons, aConsL, aNil, aLst, aTup, lstC, wsD, rCons, rNil, pks, aCB, aCBL, aBM, aBM0, isL, mAppend, mPop, mPopAt,
  aSlL, aSlT, aRevL, aNo, aSome, aAndV, aOrV, aNotV, aIfE, aChain, aDIn, aDGet, aDNew, withDic, Zi.keyOf, cut2, part32, eqD_str, inD2, all_str2, aFor, aForE, comesBack, aLc, aSortSet, aPutS, aCl, aIL, aIT, aIR1, aIR2, aIE, aIZ, aIS, wipeE, backE,
  oAdd, oSub, oMul, oMulW, oMod, oDiv, oDivW, oPow, oLt, oLe, oGt, oGe, oI, oIc, oEq, oNe, oIn, oIx, oCat, oAddS, oInS, oIs, oIsNot, oIsB, oIsNB, isNon, oNeg, oBits, bLen, bList, bMax2, bMin2, bMin, aIsi, aSetSl, tyN, kit_NoneType_bool, kit_NoneType_int, kit_NoneType_str, kit_NoneType_list, kit_NoneType_tuple, kit_NoneType_dict, kit_bool_bool, kit_bool_int, kit_bool_str, kit_bool_list, kit_bool_tuple, kit_bool_dict, kit_int_bool, kit_int_int, kit_int_str, kit_int_list, kit_int_tuple, kit_int_dict, kit_str_bool, kit_str_int, kit_str_str, kit_str_list, kit_str_tuple, kit_str_dict, kit_list_bool, kit_list_int, kit_list_str, kit_list_list, kit_list_tuple, kit_list_dict, kit_tuple_bool, kit_tuple_int, kit_tuple_str, kit_tuple_list, kit_tuple_tuple, kit_tuple_dict, kit_dict_bool, kit_dict_int, kit_dict_str, kit_dict_list, kit_dict_tuple, kit_dict_dict, 
  List.getElem?_cons_zero, List.getElem?_cons_succ, List.set_cons_zero, List.set_cons_succ, List.length_cons, List.length_nil, List.set_set, List.getElem?_set_self, Nat.zero_le, okD_nil, okD_str, okD_int, okD_bl, okD_non, ea0, at0, at1, at2, at3, ix0, ix1, ix2, true_and, and_true, Bool.false_eq_true, Bool.not_true, Bool.not_false, ↓reduceIte, *])

/-! ### the purse -/
abbrev Pur (a b c : Int) : Cell := .lst [.int a, .int b, .int c]
def PurOk (a b c : Int) : Prop := 0 ≤ a ∧ 0 ≤ b ∧ b < 2147483647 ∧ 0 ≤ c
theorem pow18 : CPowW 10 18 := ⟨by decide, by decide⟩
theorem pow60 : CPowW 10 60 := ⟨by decide, by decide⟩
theorem pow600 : CPowW (10 ^ (60 : Int).toNat) 10 := ⟨by decide, by decide +kernel⟩
theorem pow_pos600 : (0 : Int) < (10 ^ (60 : Int).toNat) ^ (10 : Int).toNat := by decide +kernel
def sp_law_at (K : PySem.W.Frag) : ASp := fun ws st A _ => ∃ (a : Addr) (φ : Hp → Prop) (ns : List Int) (k : Int), ws = [.raw (.ref a) φ, .d (.int k)] ∧ (∀ F, φ F → SqL K F a (ns.map V.int)) ∧ 0 ≤ k ∧ ∀ r, A (.w (.d (.int r))) st
theorem SqL.up {K : PySem.W.Frag} {F H : Hp} {a : Addr} {xs : List V} (s : Same F H) (h : SqL K F a xs) : SqL K H a xs := by
  rcases h with h | h
  · rcases h with h | ⟨o, h⟩
    · exact .inl (.inl (s _ _ h))
    · exact .inl (.inr ⟨o, s _ _ h⟩)
  · exact .inr h
section
variable {P : Program} {w : World} {K : PySem.W.Frag} {mg : Str → Option Value} {base : Heap}
theorem ok_law_at (T : Top K mg) : FnOk P w K mg base CX0 1 T.a_law_at T.fd_law_at ["_law_script", "_law_k"] (SpA 2 (sp_law_at K)) := by
  refine T.F_law_at.ok sc_law_at (fun vs H Q E h => SpA.len h) (fun cdv A outer s H vs Q E hr h => ?_)
  · obtain ⟨B, ws, st, A, Ea, X, hL, wvs, hm, ⟨a, φ, ns, k, rfl, hφ, hk, hA⟩, kA, kE⟩ := h
    cases wvs with | cons w1 t => ?_
    cases t with | cons w2 t => ?_
    cases t
    obtain ⟨rfl, f1, _⟩ := w1
    cases (show Dv B.F _ (.int k) from w2).intE
    have hS : SqL K H a (ns.map V.int) := SqL.up X.sm (hφ _ f1)
    have q : ∀ r, Q (.int r) H := fun r => kA _ _ B.F B.al H _ (hA r) X (Dv.int r)
    refine ⟨_, (pss_cons (ps_if (pt_cmpR op_lt (pv 1) (pe_callB (call_lenK K rfl) (by rfl) T.z_len (by decide +kernel) (pa_cons (pv 0) pa_nil)) (nomark _)) (pss_one (ps_ret (pe_ix (ix_seqK K rfl) (pv 0) (pv 1) (fun _ _ => rfl)))) pss_nil)
 (pss_one (ps_ret pe_int))), ?_⟩
    refine ⟨_, rfl, _, rfl, a, ns.map V.int, rfl, .inl hS, _, _, rfl, rfl, _, rfl, ite2 (fun h => ?_) (fun _ => q 0)⟩
    have hlt : k < ((ns.map V.int).length : Int) := of_decide_eq_true h
    obtain ⟨j, rfl⟩ := Int.eq_ofNat_of_zero_le hk
    have hj : j < ns.length := by rw [List.length_map] at hlt; omega
    have e : (ns.map V.int)[j]? = some (.int ns[j]) := by rw [List.getElem?_map, List.getElem?_eq_getElem hj]; rfl
    exact ⟨_, rfl, _, rfl, .inl ⟨a, _, _, _, rfl, rfl, hS, atI_nat e, q _⟩⟩
def ab_law_mixed : XA → ASt := fun ea =>
 (aSeq (aAsg 2 (aN (aOp oMod (aOp oAdd (aOp oAdd (aOp oAdd (aOp oMul (aVar 0) (aC (.int 1103515245))) (aOp oMul (aOp oMul (aC (.int 7919)) (aVar 1)) (aVar 1))) (aVar 1)) (aC (.int 1))) (aC (.int 2147483647)))))
 (aSeq (aAsg 2 (aN (aOp oMod (aOp oAdd (aOp oMul (aVar 2) (aVar 2)) (aC (.int 69621))) (aC (.int 2147483629)))))
 (aRet (aN (aOp oMod (aOp oMul (aVar 2) (aC (.int 48271))) (aC (.int 2147483587)))))))
theorem go_law_mixed {w0 w1 : W} {st : List Cell} {A : Zi.N → List Cell → Prop} {Ea : XA} (h : ab_law_mixed Ea ⟨fun s => A (.w (.d .non)) s.st, A, fun _ => False, fun _ => False⟩ ⟨[.v w0, .v w1, .no], st⟩) : aFn 3 ab_law_mixed [w0, w1] st A Ea := h
def sp_law_mixed : ASp := fun ws st A _ => ∃ a k : Int, ws = [.d (.int a), .d (.int k)] ∧ 0 ≤ a ∧ a < 2147483647 ∧ 0 ≤ k ∧ k ≤ 1000000 ∧ ∀ r : Int, 0 ≤ r → r < 2147483587 → A (.w (.d (.int r))) st
theorem red_law_mixed (ws st A Ea) (_ : ws.length = 2) (h : sp_law_mixed ws st A Ea) : aFn 3 ab_law_mixed ws st A Ea := by
  obtain ⟨a, k, rfl, ha, ha2, hk, hk2, q⟩ := h
  refine ⟨.inl ⟨by omega, by omega⟩, ?_⟩
  refine ⟨.inl ⟨by omega, by omega⟩, ?_⟩
  refine ⟨.inr ⟨by omega, by omega⟩, ?_⟩
  refine ⟨(show (0 : Int) < 2147483647 by decide), ?_⟩
  generalize e1 : (a * 1103515245 + 7919 * k * k + k + 1) % 2147483647 = n1
  have b1 : 0 ≤ n1 := by rw [← e1]; exact Int.emod_nonneg _ (by decide)
  have b2 : n1 < 2147483647 := by rw [← e1]; exact Int.emod_lt_of_pos _ (by decide)
  refine ⟨.inl ⟨by omega, by omega⟩, ?_⟩
  refine ⟨(show (0 : Int) < 2147483629 by decide), ?_⟩
  generalize e2 : (n1 * n1 + 69621) % 2147483629 = n2
  have c1 : 0 ≤ n2 := by rw [← e2]; exact Int.emod_nonneg _ (by decide)
  have c2 : n2 < 2147483629 := by rw [← e2]; exact Int.emod_lt_of_pos _ (by decide)
  refine ⟨.inl ⟨by omega, by omega⟩, ?_⟩
  refine ⟨(show (0 : Int) < 2147483587 by decide), ?_⟩
  exact q _ (Int.emod_nonneg _ (by decide)) (Int.emod_lt_of_pos _ (by decide))
theorem ok_law_mixed (T : Top K mg) : FnOk P w K mg base CX0 1 T.a_law_mixed T.fd_law_mixed ["_law_cell", "_law_k"] (SpA 2 sp_law_mixed) := by
  refine T.F_law_mixed.ok sc_law_mixed (fun vs H Q E h => SpA.len h) (fun cdv A outer s H vs Q E hr h => ?_)
  refine ⟨_, (pss_cons (ps_set (i := 2) sc_law_mixed.nd rfl (Or.inl rfl) (pe_op op_mod (pe_op op_add (pe_op op_add (pe_op op_add (pe_op op_mul (pv 0) pe_int) (pe_op op_mul (pe_op op_mul pe_int (pv 1)) (pv 1))) (pv 1)) pe_int) pe_int))
 (pss_cons (ps_set (i := 2) sc_law_mixed.nd rfl (Or.inl rfl) (pe_op op_mod (pe_op op_add (pe_op op_mul (pv 2) (pv 2)) pe_int) pe_int))
 (pss_one (ps_ret (pe_op op_mod (pe_op op_mul (pv 2) pe_int) pe_int))))), fn_read (N := ["_law_cell", "_law_k", "_law_number"]) (ab := ab_law_mixed) (fun ea => ?_) red_law_mixed h⟩
  unfold ab_law_mixed
  exact (RS.seq (RS.asg (RN.of (RE.op oMod_ok (RE.op oAdd_ok (RE.op oAdd_ok (RE.op oAdd_ok (RE.op oMul_ok RE.var RE.int) (RE.op oMul_ok (RE.op oMul_ok RE.int RE.var) RE.var)) RE.var) RE.int) RE.int)))
 (RS.seq (RS.asg (RN.of (RE.op oMod_ok (RE.op oAdd_ok (RE.op oMul_ok RE.var RE.var) RE.int) RE.int)))
 (RS.ret (RN.of (RE.op oMod_ok (RE.op oMul_ok RE.var RE.int) RE.int)))))
def ab_law_purse (K : PySem.W.Frag) : XA → ASt := fun ea =>
 (aSeq (aAsg 2 (aCall ea0 2 (sp_law_at K) (aCons (aVar 0) (aCons (aVar 1) aNil))))
 (aRet (aLst (aCons (aOp oMod (aCB bMax2 (rCons (aOp oSub (aVar 2) (aOp oPow (aC (.int 10)) (aC (.int 18)))) (rCons (aC (.int 0)) rNil))) (aOp oPow (aOp oPow (aC (.int 10)) (aC (.int 60))) (aC (.int 10)))) (aCons (aOp oMod (aVar 2) (aC (.int 2147483647))) (aCons (aOp oMul (aC (.int 1000)) (aVar 1)) aNil))))))
theorem go_law_purse {K : PySem.W.Frag} {w0 w1 : W} {st : List Cell} {A : Zi.N → List Cell → Prop} {Ea : XA} (h : (ab_law_purse K) Ea ⟨fun s => A (.w (.d .non)) s.st, A, fun _ => False, fun _ => False⟩ ⟨[.v w0, .v w1, .no], st⟩) : aFn 3 (ab_law_purse K) [w0, w1] st A Ea := h
def sp_law_purse (K : PySem.W.Frag) : ASp := fun ws st A _ => ∃ (a : Addr) (φ : Hp → Prop) (ns : List Int) (k : Int), ws = [.raw (.ref a) φ, .d (.int k)] ∧ (∀ F, φ F → SqL K F a (ns.map V.int)) ∧ 0 ≤ k ∧ k ≤ 63 ∧ ∀ a b, PurOk a b (1000 * k) → A (.new (Pur a b (1000 * k))) st
theorem red_law_purse (ws st A Ea) (_ : ws.length = 2) (h : sp_law_purse K ws st A Ea) : aFn 3 (ab_law_purse K) ws st A Ea := by
  obtain ⟨a, φ, ns, k, rfl, hS, hk, hk2, q⟩ := h
  refine ⟨rfl, a, φ, ns, k, rfl, hS, hk, fun r => ?_⟩
  refine ⟨pow18, pow60, pow600, pow_pos600, ?_⟩
  refine ⟨(show (0 : Int) < 2147483647 by decide), .inl ⟨by decide, by decide⟩, (show 3 ≤ sizeLine by decide), ?_⟩
  exact q _ _ ⟨Int.emod_nonneg _ (Int.ne_of_gt pow_pos600), Int.emod_nonneg _ (by decide), Int.emod_lt_of_pos _ (by decide), by omega⟩
theorem ok_law_purse (T : Top K mg) : FnOk P w K mg base CX0 2 T.a_law_purse T.fd_law_purse ["_law_script", "_law_at_here"] (SpA 2 (sp_law_purse K)) := by
  refine T.F_law_purse.ok sc_law_purse (fun vs H Q E h => SpA.len h) (fun cdv A outer s H vs Q E hr h => ?_)
  refine ⟨_, (pss_cons (ps_set (i := 2) sc_law_purse.nd rfl (Or.inl rfl) (pe_call (ok_law_at T) (hr.mono (by decide)) (by rfl) T.g_law_at T.F_law_at.kp T.b_law_at .nil pass0 (pa_cons (pv 0) (pa_cons (pv 1) pa_nil))))
 (pss_one (ps_ret (pe_lst (pa_cons (pe_op op_mod (pe_callB (call_max2 rfl) (by rfl) T.z_max (by decide +kernel) (pa_cons (pe_op op_sub (pv 2) (pe_op op_powW pe_int pe_int)) (pa_cons pe_int pa_nil))) (pe_op op_powW (pe_op op_powW pe_int pe_int) pe_int)) (pa_cons (pe_op op_mod (pv 2) pe_int) (pa_cons (pe_op op_mul pe_int (pv 1)) pa_nil))))))), fn_read (N := ["_law_script", "_law_at_here", "_law_cell"]) (ab := (ab_law_purse K)) (fun ea => ?_) red_law_purse h⟩
  unfold ab_law_purse
  exact (RS.seq (RS.asg (RN.call0 (asp := (sp_law_at K)) (RA.cons RE.var (RA.cons RE.var RA.nil))))
 (RS.ret (RN.lst (RA.cons (RE.op oMod_ok (RE.cb bMax2_ok (RR.cons (RE.op oSub_ok RE.var (RE.op oPow_ok RE.int RE.int)) (RR.cons RE.int RR.nil))) (RE.op oPow_ok (RE.op oPow_ok RE.int RE.int) RE.int)) (RA.cons (RE.op oMod_ok RE.var RE.int) (RA.cons (RE.op oMul_ok RE.int RE.var) RA.nil))))))
def ab_law_draw : XA → ASt := fun ea =>
 (aSeq (aIf (aT (aOp oGt (aOp oIx (aVar 0) (aC (.int 0))) (aC (.int 0))))
 (aSeq (aAsg 2 (aN (aOp oMod (aOp oIx (aVar 0) (aC (.int 0))) (aVar 1))))
 (aSeq (aSetIx (aOp oDiv (aOp oIx (aVar 0) (aC (.int 0))) (aVar 1)) (aVar 0) (aC (.int 0)))
 (aRet (aMove 2))))
 aNext)
 (aSeq (aAsg 3 (aN (aC (.int 0))))
 (aSeq (aFor (aIR1 (rCons (aOp oAdd (aC (.int 1)) (aOp oDiv (aUn oBits (aVar 1)) (aC (.int 30)))) rNil)) (.nm 4)
 (aSeq (aSetIx (aOp oAdd (aOp oIx (aVar 0) (aC (.int 2))) (aC (.int 1))) (aVar 0) (aC (.int 2)))
 (aAsg 3 (aN (aOp oAdd (aOp oMul (aVar 3) (aC (.int 2147483587))) (aFz (aCall ea0 2 sp_law_mixed (aCons (aOp oIx (aVar 0) (aC (.int 1))) (aCons (aOp oIx (aVar 0) (aC (.int 2))) aNil)))))))))
 (aRet (aN (aOp oMod (aVar 3) (aVar 1)))))))
theorem go_law_draw {w0 w1 : W} {st : List Cell} {A : Zi.N → List Cell → Prop} {Ea : XA} (h : ab_law_draw Ea ⟨fun s => A (.w (.d .non)) s.st, A, fun _ => False, fun _ => False⟩ ⟨[.v w0, .v w1, .no, .no, .no], st⟩) : aFn 5 ab_law_draw [w0, w1] st A Ea := h
def sp_law_draw : ASp := fun ws st A _ => ∃ (p : Nat) (n a b c : Int), ws = [.loc p, .d (.int n)] ∧ 1 ≤ n ∧ n < 1073741824 ∧ st[p]? = some (Pur a b c) ∧ PurOk a b c ∧ c + 2 ≤ 1000000 ∧
  ∀ r a' b' c' : Int, 0 ≤ r → r < n → PurOk a' b' c' → c ≤ c' → c' ≤ c + 2 → A (.w (.d (.int r))) (st.set p (Pur a' b' c'))
theorem red_law_draw (ws st A Ea) (_ : ws.length = 2) (h : sp_law_draw ws st A Ea) : aFn 5 ab_law_draw ws st A Ea := by
  obtain ⟨p, n, a, b, c, rfl, hn, hn2, hp, ⟨a0, b0, b1, c0⟩, hc, q⟩ := h
  refine go_law_draw ?_
  unfold ab_law_draw
  walk_at "z"
  have hb : (Builtin.Int.intBits n : Int) ≤ 30 := by
    have := PyProof.Rows.intBits_le (a := n) (k := 30) (by omega)
    omega
  have hb0 : (0 : Int) ≤ (Builtin.Int.intBits n : Int) := Int.natCast_nonneg _
  split
  · refine ⟨by omega, ⟨by omega, hn2⟩, ?_⟩
    exact q _ _ _ _ (Int.emod_nonneg _ (by omega)) (Int.emod_lt_of_pos _ (by omega)) ⟨Int.ediv_nonneg a0 (by omega), b0, b1, c0⟩ (Int.le_refl _) (by omega)
  · refine ⟨⟨by decide, by decide⟩, ⟨by omega, by omega⟩, ?_⟩
    refine forGo_ind (fun ds s => ∃ m y c', s = ⟨[.v (.loc p), .v (.d (.int n)), .no, .v (.d (.int m)), y], st.set p (Pur a b c')⟩ ∧ PurOk a b c' ∧ c ≤ c' ∧ c' + ds.length ≤ c + 2) ?_ ?_ _ _ ⟨0, .no, c, ?_⟩
    · rintro s ⟨m, y, c', rfl, hp', h1, h2⟩
      walk_at "z"
      exact ⟨by omega, q _ _ _ _ (Int.emod_nonneg _ (by omega)) (Int.emod_lt_of_pos _ (by omega)) hp' h1 (by simpa using h2)⟩
    · rintro d ds s k hk ⟨m, y, c', rfl, hp', h1, h2⟩
      have hl : p < st.length := (List.getElem?_eq_some_iff.mp hp).1
      have e0 : (st.set p (Pur a b c'))[p]? = some (Pur a b c') := List.getElem?_set_self hl
      have e1 : ∀ x y, ((st.set p x).set p y)[p]? = some y := fun x y => List.getElem?_set_self (by rw [List.length_set]; exact hl)
      simp only [q_bind_nm, List.set_cons_succ, List.set_cons_zero]
      walk_at "z"
      refine ⟨.inr ⟨by decide, by decide⟩, b, c' + 1, rfl, b0, b1, by have := hp'.2.2.2; omega, by simp only [List.length_cons] at h2; omega, fun r r0 r1 => ?_⟩
      walk_at "z"
      refine hk _ ⟨_, _, c' + 1, rfl, ⟨a0, b0, b1, by have := hp'.2.2.2; omega⟩, by omega, ?_⟩
      simp only [List.length_cons] at h2; omega
    · refine ⟨?_, ⟨a0, b0, b1, c0⟩, Int.le_refl _, ?_⟩
      · rw [set_same hp]
      · rw [upto_length]; omega
theorem ok_law_draw (T : Top K mg) : FnOk P w K mg base CX0 2 T.a_law_draw T.fd_law_draw ["_law_purse_here", "_law_out_of"] (SpA 2 sp_law_draw) := by
  refine T.F_law_draw.ok sc_law_draw (fun vs H Q E h => SpA.len h) (fun cdv A outer s H vs Q E hr h => ?_)
  refine ⟨_, (pss_cons (ps_if (pt_cmpR op_gt (pe_ix (ix_seqK K rfl) (pv 0) pe_int (fun _ _ => rfl)) pe_int (nomark _)) (pss_cons (ps_set (i := 2) sc_law_draw.nd rfl (Or.inl rfl) (pe_op op_mod (pe_ix (ix_seqK K rfl) (pv 0) pe_int (fun _ _ => rfl)) (pv 1)))
 (pss_cons (ps_asg (pe_op op_fdiv (pe_ix (ix_seqK K rfl) (pv 0) pe_int (fun _ _ => rfl)) (pv 1)) (pg_sub (pv 0) pe_int set_list))
 (pss_one (ps_ret (pv 2))))) pss_nil)
 (pss_cons (ps_set (i := 3) sc_law_draw.nd rfl (Or.inl rfl) pe_int)
 (pss_cons (ps_for PassesOwn.never rfl (pi_range1 rfl T.z_range (pa_cons (pe_op op_add pe_int (pe_op op_fdiv (pe_bits (pv 1)) pe_int)) pa_nil)) (pg_name (i := 4) sc_law_draw.nd rfl (Or.inl rfl)) (pss_cons (ps_asg (pe_op op_add (pe_ix (ix_seqK K rfl) (pv 0) pe_int (fun _ _ => rfl)) pe_int) (pg_sub (pv 0) pe_int set_list))
 (pss_one (ps_set (i := 3) sc_law_draw.nd rfl (Or.inl rfl) (pe_op op_add (pe_op op_mul (pv 3) pe_int) (pe_call (ok_law_mixed T) (hr.mono (by decide)) (by rfl) T.g_law_mixed T.F_law_mixed.kp T.b_law_mixed .nil pass0 (pa_cons (pe_ix (ix_seqK K rfl) (pv 0) pe_int (fun _ _ => rfl)) (pa_cons (pe_ix (ix_seqK K rfl) (pv 0) pe_int (fun _ _ => rfl)) pa_nil))))))))
 (pss_one (ps_ret (pe_op op_mod (pv 3) (pv 1))))))), fn_read (N := ["_law_purse_here", "_law_out_of", "_law_drawn", "_law_number", "_law_k"]) (ab := ab_law_draw) (fun ea => ?_) red_law_draw h⟩
  unfold ab_law_draw
  exact (RS.seq (RS.ifs (RT.test (RE.op oGt_ok (RE.op oIx_ok RE.var RE.int) RE.int))
 (RS.seq (RS.asg (RN.of (RE.op oMod_ok (RE.op oIx_ok RE.var RE.int) RE.var)))
 (RS.seq (RS.setIx (RE.op oDiv_ok (RE.op oIx_ok RE.var RE.int) RE.var) RE.var RE.int)
 (RS.ret RN.move)))
 RS.next)
 (RS.seq (RS.asg (RN.of RE.int))
 (RS.seq (RS.for (RI.rng1 (RR.cons (RE.op oAdd_ok RE.int (RE.op oDiv_ok (RE.bits RE.var) RE.int)) RR.nil)) RG.nm
 (RS.seq (RS.setIx (RE.op oAdd_ok (RE.op oIx_ok RE.var RE.int) RE.int) RE.var RE.int)
 (RS.asg (RN.of (RE.op oAdd_ok (RE.op oMul_ok RE.var RE.int) (RE.fz (RN.call0 (asp := sp_law_mixed) (RA.cons (RE.op oIx_ok RE.var RE.int) (RA.cons (RE.op oIx_ok RE.var RE.int) RA.nil)))))))))
 (RS.ret (RN.of (RE.op oMod_ok RE.var RE.var))))))
/-! ### data that may be compared -/
def okE (d : D) : Prop := (py d).plain = true ∧ (py d).depth ≤ 58
theorem depthAll_le {n : Nat} : ∀ {ds : List PyData}, (∀ d ∈ ds, d.depth ≤ n) → PyData.depthAll ds ≤ n
  | [], _ => Nat.zero_le _
  | d :: ds, h => by
    rw [PyData.depthAll]
    exact Nat.max_le.mpr ⟨h d (List.mem_cons_self ..), depthAll_le fun x hx => h x (List.mem_cons_of_mem _ hx)⟩
theorem plainAll_iff : ∀ {ds : List PyData}, PyData.plainAll ds = true ↔ ∀ d ∈ ds, d.plain = true
  | [] => ⟨fun _ _ h => (nomatch h), fun _ => rfl⟩
  | d :: ds => by
    rw [PyData.plainAll, Bool.and_eq_true, plainAll_iff]
    exact ⟨fun h x hx => (List.mem_cons.mp hx).elim (fun z => z ▸ h.1) (fun z => h.2 x z), fun h => ⟨h d (List.mem_cons_self ..), fun x hx => h x (List.mem_cons_of_mem _ hx)⟩⟩
theorem okD_lst {ds : List D} (h : ∀ d ∈ ds, okE d) : okD (.lst ds) = true := by
  unfold okD
  rw [Bool.and_eq_true]
  refine ⟨?_, decide_eq_true ?_⟩
  · show (PyData.list (pyAll ds)).plain = true
    rw [PyData.plain, pyAll_map, plainAll_iff]
    intro d hd
    obtain ⟨e, he, rfl⟩ := List.mem_map.mp hd
    exact (h e he).1
  · show (PyData.list (pyAll ds)).depth ≤ 60
    have : PyData.depthAll (pyAll ds) ≤ 58 := depthAll_le fun d hd => by
      rw [pyAll_map] at hd
      obtain ⟨e, he, rfl⟩ := List.mem_map.mp hd
      exact (h e he).2
    rw [PyData.depth]; omega
theorem okE.d {d : D} (h : okE d) : okD d = true := by
  unfold okD
  rw [h.1, decide_eq_true (Nat.le_trans h.2 (by decide))]; rfl
theorem eqD_nil {ds : List D} : eqD (.lst ds) (.lst []) = ds.isEmpty := by
  unfold eqD
  simp only [py, pyAll, PyData.eqv]
  cases ds with
  | nil => simp [pyAll, PyData.eqvAll]
  | cons d ds => simp [pyAll, PyData.eqvAll]
theorem seqIx {j n : Nat} (h : j < n) : seqIndex? (j : Int) n = some j := by
  unfold seqIndex?
  have : ¬ ((j : Int) < 0) := by omega
  simp only [this, if_false]
  have h2 : (decide (0 ≤ (j : Int)) && decide ((j : Int) < (n : Int))) = true := by
    rw [Bool.and_eq_true]
    exact ⟨decide_eq_true (by omega), decide_eq_true (by omega)⟩
  rw [if_pos h2]
  rfl
theorem perm_erase {α : Type} : ∀ {l : List α} {j : Nat} {d : α}, l[j]? = some d → ([d] ++ l.eraseIdx j).Perm l
  | [], _, _, h => by simp at h
  | a :: l, 0, d, h => by
    have : a = d := by simpa using h
    subst this
    exact List.Perm.refl _
  | a :: l, j + 1, d, h => by
    have ih := perm_erase (l := l) (j := j) (d := d) (by simpa using h)
    show (d :: a :: l.eraseIdx j).Perm (a :: l)
    exact (List.Perm.swap a d _).trans (List.Perm.cons a ih)
def ab_law_order : XA → ASt := fun ea =>
 (aSeq (aAsg 2 (aCBL bList (rCons (aVar 1) rNil)))
 (aSeq (aAsg 3 (aLst aNil))
 (aSeq (aWhile (aT (aOp oNe (aVar 2) (aFz (aLst aNil))))
 (aDrop (aBM mAppend (aVar 3) (aCons (aBM mPopAt (aVar 2) (aCons (aFz (aCall ea0 2 sp_law_draw (aConsL (aVar 0) (aCons (aCB bLen (rCons (aVar 2) rNil)) aNil)))) aNil)) aNil))))
 (aRet (aMove 3)))))
theorem go_law_order {w0 w1 : W} {st : List Cell} {A : Zi.N → List Cell → Prop} {Ea : XA} (h : ab_law_order Ea ⟨fun s => A (.w (.d .non)) s.st, A, fun _ => False, fun _ => False⟩ ⟨[.v w0, .v w1, .no, .no], st⟩) : aFn 4 ab_law_order [w0, w1] st A Ea := h
def sp_law_order : ASp := fun ws st A _ => ∃ (p : Nat) (ds : List D) (a b c : Int), ws = [.loc p, .d (.lst ds)] ∧ (∀ d ∈ ds, okE d) ∧ ds.length ≤ 1000 ∧ st[p]? = some (Pur a b c) ∧ PurOk a b c ∧ c + 2 * ds.length ≤ 1000000 ∧
  ∀ (ds' : List D) (a' b' c' : Int), ds'.Perm ds → PurOk a' b' c' → c ≤ c' → c' ≤ c + 2 * ds.length → A (.new (.lst ds')) (st.set p (Pur a' b' c'))
theorem red_law_order (ws st A Ea) (_ : ws.length = 2) (h : sp_law_order ws st A Ea) : aFn 4 ab_law_order ws st A Ea := by
  obtain ⟨p, ds, a, b, c, rfl, hok, hl, hp, hpo, hc, q⟩ := h
  have hpl : p < st.length := (List.getElem?_eq_some_iff.mp hp).1
  refine go_law_order ?_
  unfold ab_law_order
  walk_at "z"
  refine while_ind (fun m s => ∃ rest found a' b' c', s = ⟨[.v (.loc p), .v (.d (.lst ds)), .own (.lst rest), .own (.lst found)], st.set p (Pur a' b' c')⟩ ∧ m = rest.length ∧ (found ++ rest).Perm ds ∧ PurOk a' b' c' ∧ c ≤ c' ∧ c' + 2 * rest.length ≤ c + 2 * ds.length) ?_ ds.length _ ?_
  · rintro m s k hk ⟨rest, found, a', b', c', rfl, rfl, pm, hpo', h1, h2⟩
    have hok' : ∀ d ∈ rest, okE d := fun d hd => hok d (pm.mem_iff.mp (List.mem_append_right _ hd))
    have hlen : found.length + rest.length = ds.length := by rw [← List.length_append]; exact pm.length_eq
    walk_at "z"
    refine ⟨okD_lst hok', ?_⟩
    rw [eqD_nil]
    cases rest with
    | nil =>
      simp only [List.isEmpty_nil, Bool.not_true, Bool.false_eq_true, if_false]
      rw [List.append_nil] at pm
      exact q _ _ _ _ pm hpo' h1 (by simpa using h2)
    | cons d0 rest =>
      simp only [List.isEmpty_cons, Bool.not_false, if_true]
      have hlr : (d0 :: rest).length ≤ 1000 := by omega
      have hne : 1 ≤ (d0 :: rest).length := by simp
      refine ⟨p, _, _, _, _, rfl, by omega, by omega, List.getElem?_set_self hpl, hpo', by omega, fun r a2 b2 c2 r0 r1 po2 h3 h4 => ?_⟩
      obtain ⟨j, rfl⟩ := Int.eq_ofNat_of_zero_le r0
      have hj : j < (d0 :: rest).length := by omega
      have ej := List.getElem?_eq_getElem hj
      have sj := seqIx hj
      have pe := perm_erase ej
      have le := List.length_eraseIdx_of_lt hj
      generalize (d0 :: rest)[j] = dj at *
      generalize hr' : d0 :: rest = rest0 at *
      walk_at "z"
      refine ⟨by omega, by omega, by show found.length < 16777216; omega, ?_⟩
      refine hk _ _ ?_ ⟨_, _, a2, b2, c2, rfl, rfl, ?_, po2, by omega, by omega⟩
      · omega
      · refine List.Perm.trans ?_ pm
        rw [List.append_assoc]
        exact List.Perm.append_left _ pe
  · exact ⟨ds, [], a, b, c, by rw [set_same hp], rfl, by simp, hpo, Int.le_refl _, Int.le_refl _⟩
theorem ok_law_order (T : Top K mg) : FnOk P w K mg base CX0 3 T.a_law_order T.fd_law_order ["_law_purse_here", "_law_some"] (SpA 2 sp_law_order) := by
  refine T.F_law_order.ok sc_law_order (fun vs H Q E h => SpA.len h) (fun cdv A outer s H vs Q E hr h => ?_)
  refine ⟨_, (pss_cons (ps_set (i := 2) sc_law_order.nd rfl (Or.inl rfl) (pe_callTy (call_listK K rfl) (by rfl) T.z_list (by decide +kernel) (pa_cons (pv 1) pa_nil)))
 (pss_cons (ps_set (i := 3) sc_law_order.nd rfl (Or.inl rfl) (pe_lst pa_nil))
 (pss_cons (ps_while PassesOwn.never (pt_cmpR (op_neQ hr.units) (pv 2) (pe_lst pa_nil) (nomark _)) (pss_one (ps_expr (bmK K rfl (pe_bm PySem.F.plainAttrs_list PySem.F.slot_list_append PySem.F.type_list_append mt_append (pv 3) (pa_cons (bmK K rfl (pe_bm PySem.F.plainAttrs_list PySem.F.slot_list_pop PySem.F.type_list_pop mt_popAt (pv 2) (pa_cons (pe_call (ok_law_draw T) (hr.mono (by decide)) (by rfl) T.g_law_draw T.F_law_draw.kp T.b_law_draw .nil pass0 (pa_cons (pv 0) (pa_cons (pe_callB (call_lenK K rfl) (by rfl) T.z_len (by decide +kernel) (pa_cons (pv 2) pa_nil)) pa_nil))) pa_nil))) pa_nil))))))
 (pss_one (ps_ret (pv 3)))))), fn_read (N := ["_law_purse_here", "_law_some", "_law_rest", "_law_found"]) (ab := ab_law_order) (fun ea => ?_) red_law_order h⟩
  unfold ab_law_order
  exact (RS.seq (RS.asg (RN.cb bList_ok (RR.cons RE.var RR.nil)))
 (RS.seq (RS.asg (RN.lst RA.nil))
 (RS.seq (RS.while (RT.test (RE.op oNe_ok RE.var (RE.fz (RN.lst RA.nil))))
 (RS.drop (RE.bm mAppend_ok RE.var (RA.cons (RE.bm mPopAt_ok RE.var (RA.cons (RE.fz (RN.call0 (asp := sp_law_draw) (RA.consL RE.var (RA.cons (RE.cb bLen_ok (RR.cons RE.var RR.nil)) RA.nil)))) RA.nil)) RA.nil))))
 (RS.ret RN.move))))
end


theorem okE_ex (e : Exch) : okE (exD e) := ⟨rfl, by show (1 : Nat) ≤ 58; decide⟩
theorem exD_eqv (a b : Exch) : PyData.eqv (py (exD a)) (py (exD b)) = decide (a = b) := pE_eqv a b
theorem pyAll_ex (es : List Exch) : pyAll (es.map exD) = es.map pE := by rw [pyAll_map, List.map_map]; rfl
theorem eqD_exs (a b : List Exch) : eqD (.lst (a.map exD)) (.lst (b.map exD)) = decide (a = b) := by
  unfold eqD
  simp only [py, pyAll_ex]
  exact Ly.eqv_list pE pE_eqv a b
theorem eqD_ex (a b : Exch) : eqD (exD a) (exD b) = decide (a = b) := pE_eqv a b
theorem okD_exs (a : List Exch) : okD (.lst (a.map exD)) = true := okD_lst fun d hd => by
  obtain ⟨e, _, rfl⟩ := List.mem_map.mp hd
  exact okE_ex e
/-- [x for x in es if h in x[:2]] -/
theorem lc_view {h : Str} {es : List Exch} {e0 e1 : Sl} {st : List Cell} {k : List D → AS → Prop} (hl : es.length ≤ 1000) (hk : k ((viewM h es).map exD) ⟨[e0, e1, .v (.d (.str h)), .no], st⟩) :
    lcGo (.nm 3) (aT (aOp (oIn false) (aVar 2) (aSlT (aVar 3) aNo (aSome (aC (.int 2)))))) (aVar 3) [3] k (es.map exD) ⟨[e0, e1, .v (.d (.str h)), .no], st⟩ [] := by
  refine lcGo_ty exD (hasH h) exD es (by omega) (fun x _ => ⟨_, rfl, rfl, fun A hA => ?_, fun _ A hA => ?_⟩) hk
  · have hx : exD x = .tup [.str x.1, .str x.2.1, .str x.2.2] := rfl
    have hh : hasH h x = (x.1 == h || x.2.1 == h) := rfl
    walk_at "z"
    rw [← hh, ← hx]
    exact hA
  · walk_at "z"
    exact hA
section
variable {P : Program} {w : World} {K : PySem.W.Frag} {mg : Str → Option Value} {base : Heap}
def ab_strangers : XA → ASt := fun ea =>
 (aRet (aN (aAndV (aOp (oIn true) (aOp oIx (aVar 0) (aC (.int 0))) (aSlT (aVar 1) aNo (aSome (aC (.int 2))))) (aOp (oIn true) (aOp oIx (aVar 0) (aC (.int 1))) (aSlT (aVar 1) aNo (aSome (aC (.int 2))))))))
theorem go_strangers {w0 w1 : W} {st : List Cell} {A : Zi.N → List Cell → Prop} {Ea : XA} (h : ab_strangers Ea ⟨fun s => A (.w (.d .non)) s.st, A, fun _ => False, fun _ => False⟩ ⟨[.v w0, .v w1], st⟩) : aFn 2 ab_strangers [w0, w1] st A Ea := h
def sp_strangers : ASp := fun ws st A _ => ∃ a b : Exch, ws = [.d (exD a), .d (exD b)] ∧ A (.w (.d (.bl (apart a b)))) st
theorem red_strangers (ws st A Ea) (_ : ws.length = 2) (h : sp_strangers ws st A Ea) : aFn 2 ab_strangers ws st A Ea := by
  obtain ⟨a, b, rfl, q⟩ := h
  refine go_strangers ?_
  unfold ab_strangers exD
  walk_at "z"
  unfold apart hasH at q
  split
  · rename_i h
    rw [h] at q
    exact q
  · rename_i h
    rw [Bool.not_eq_true] at h
    rw [h] at q
    exact q
theorem ok_strangers (T : Top K mg) : FnOk P w K mg base CX0 1 T.a_strangers T.fd_strangers ["one", "other"] (SpA 2 sp_strangers) := by
  refine T.F_strangers.ok sc_strangers (fun vs H Q E h => SpA.len h) (fun cdv A outer s H vs Q E hr h => ?_)
  refine ⟨_, (pss_one (ps_ret (pe_and (pe_cmpR (op_niQ hr.units) (pe_ix (ix_seqK K rfl) (pv 0) pe_int (fun _ _ => rfl)) (pe_slice (sl_tupK K rfl) (pv 1) po_none (po_some pe_int)) (by rfl)) (pe_one (pe_cmpR (op_niQ hr.units) (pe_ix (ix_seqK K rfl) (pv 0) pe_int (fun _ _ => rfl)) (pe_slice (sl_tupK K rfl) (pv 1) po_none (po_some pe_int)) (by rfl)))))), fn_read (N := ["one", "other"]) (ab := ab_strangers) (fun ea => ?_) red_strangers h⟩
  unfold ab_strangers
  exact (RS.ret (RN.of (RE.andV (RE.op oIn_ok (RE.op oIx_ok RE.var RE.int) (RE.slT RE.var RO.none (RO.some RE.int))) (RE.op oIn_ok (RE.op oIx_ok RE.var RE.int) (RE.slT RE.var RO.none (RO.some RE.int))))))
def ab_hands_in : XA → ASt := fun ea =>
 (aRet (aSortSet (aIL (aVar 0)) (.nm 1) aYes (aCl (aIT (aSlT (aVar 1) aNo (aSome (aC (.int 2))))) (.nm 2) aYes (aPutS (aVar 2)) [2]) [1, 2]))
theorem go_hands_in {w0 : W} {st : List Cell} {A : Zi.N → List Cell → Prop} {Ea : XA} (h : ab_hands_in Ea ⟨fun s => A (.w (.d .non)) s.st, A, fun _ => False, fun _ => False⟩ ⟨[.v w0, .no, .no], st⟩) : aFn 3 ab_hands_in [w0] st A Ea := h
def sp_hands_in : ASp := fun ws st A _ => ∃ es : List Exch, ws = [.d (.lst (es.map exD))] ∧ es.length ≤ 1000 ∧ ∀ ss : List Str, (∀ h, h ∈ ss ↔ ∃ e ∈ es, hasH h e = true) → A (.new (.lst (ss.map D.str))) st
theorem red_hands_in (ws st A Ea) (_ : ws.length = 1) (h : sp_hands_in ws st A Ea) : aFn 3 ab_hands_in ws st A Ea := by
  obtain ⟨es, rfl, hl, q⟩ := h
  refine go_hands_in ?_
  unfold ab_hands_in
  walk_at "z"
  refine clGo_ty exD (fun pre ys s acc => s = ⟨[.v (.d (.lst (es.map exD))), .no, .no], st⟩ ∧ ∃ ts : List Str, acc = ts.map Sum.inr ∧ ts.length ≤ 2 * pre.length ∧ ∀ h, h ∈ ts ↔ ∃ e ∈ pre, hasH h e = true) es ?_ ?_ _ _ ⟨rfl, [], rfl, Nat.le_refl _, fun h => by simp⟩
  · rintro s acc ⟨rfl, ts, rfl, h1, h2⟩
    refine ⟨by rw [List.length_map]; omega, alike_texts ts, fun ks pm => ?_⟩
    obtain ⟨us, h3, h4⟩ := perm_texts ((List.mergeSort_perm _ _).trans pm)
    rw [h3, kDs_texts]
    exact q us fun h => by rw [h4.mem_iff, h2]
  · rintro pre x ys s acc k' e1 hk ⟨rfl, ts, rfl, h1, h2⟩
    have hpl : pre.length ≤ es.length := by rw [e1, List.length_append]; omega
    have hx : exD x = .tup [.str x.1, .str x.2.1, .str x.2.2] := rfl
    walk_at "z"
    simp only [clG, clGo]
    walk_at "z"
    have p1 := plus_len (L := ts) (k := x.1)
    have p2 := plus_len (L := plus ts x.1) (k := x.2.1)
    have b := scanBound_big
    rw [plus_map, plus_map, List.length_map, List.length_map]
    refine ⟨by omega, by omega, hk _ _ ⟨by rw [e1], _, rfl, by rw [List.length_append, List.length_singleton]; omega, fun h => ?_⟩⟩
    rw [mem_plus, mem_plus, h2]
    simp only [List.mem_append, List.mem_singleton]
    unfold hasH
    simp only [Bool.or_eq_true, beq_iff_eq]
    constructor
    · rintro (rfl | rfl | ⟨e, he, q⟩)
      · exact ⟨x, .inr rfl, .inr rfl⟩
      · exact ⟨x, .inr rfl, .inl rfl⟩
      · exact ⟨e, .inl he, q⟩
    · rintro ⟨e, he | rfl, q⟩
      · exact .inr (.inr ⟨e, he, q⟩)
      · rcases q with q | q
        · exact .inr (.inl q.symm)
        · exact .inl q.symm
theorem ok_hands_in (T : Top K mg) : FnOk P w K mg base CX0 1 T.a_hands_in T.fd_hands_in ["history"] (SpA 1 sp_hands_in) := by
  refine T.F_hands_in.ok sc_hands_in (fun vs H Q E h => SpA.len h) (fun cdv A outer s H vs Q E hr h => ?_)
  refine ⟨_, (pss_one (ps_ret (pe_callB (cr_sortSet rfl hr.units) (by rfl) T.z_sorted (by decide +kernel) (pa_cons (pe_comp (own := [("exchange", 1), ("hand", 2)]) (g := gName 1) (tt := tYes) (ho := SetL P w []) (.set _) rfl rfl sc_hands_in.nd (by decide) (pi_listK K rfl (pv 0)) (blkOk_by (own := [("exchange", 1), ("hand", 2)]) (N := ["history", "exchange", "hand"]) (sc := defScope s_hands_in) (by decide +kernel)) (fun _ _ _ h => newSet_at h) (fun _ h => setL_ok (fresh_ok h)) (fun _ _ _ _ _ => (pg_name (i := 1) sc_hands_in.nd rfl (Or.inl rfl))) (fun _ _ _ _ _ => pts_nil) (fun _ _ _ _ _ Dn => (inner_loop (g := gName 2) (tt := tYes) (vs := [2]) rfl rfl (by decide) (pi_tupK K rfl (pe_slice (sl_tupK K rfl) (pv 1) po_none (po_some pe_int))) (pg_name (i := 2) sc_hands_in.nd rfl (Or.inl rfl)) pts_nil (by intro _; rfl) (emit_set (r := rPut P w Dn) rfl (pv 2) put_ok) (by decide))) (by decide)) pa_nil)))), fn_read (N := ["history", "exchange", "hand"]) (ab := ab_hands_in) (fun ea => ?_) red_hands_in h⟩
  unfold ab_hands_in
  exact (RS.ret (RN.sortSet (RI.list RE.var) RG.nm RT.yes (RCl.cl (RI.tup (RE.slT RE.var RO.none (RO.some RE.int))) RG.nm RT.yes (RCl.put RE.var) (by decide)) (by decide)))
def ab_same : XA → ASt := fun ea =>
 (aSeq (aFor (aIL (aFz (aCall ea0 1 sp_hands_in (aCons (aFz (aOpL oCat (aVar 0) (aVar 1))) aNil)))) (.nm 2)
 (aIf (aT (aOp oNe (aFz (aLc (aIL (aVar 0)) (.nm 3) (aT (aOp (oIn false) (aVar 2) (aSlT (aVar 3) aNo (aSome (aC (.int 2)))))) (aVar 3) [3])) (aFz (aLc (aIL (aVar 1)) (.nm 3) (aT (aOp (oIn false) (aVar 2) (aSlT (aVar 3) aNo (aSome (aC (.int 2)))))) (aVar 3) [3]))))
 (aRet (aN (aC (.bl false))))
 aNext))
 (aRet (aN (aC (.bl true)))))
theorem go_same {w0 w1 : W} {st : List Cell} {A : Zi.N → List Cell → Prop} {Ea : XA} (h : ab_same Ea ⟨fun s => A (.w (.d .non)) s.st, A, fun _ => False, fun _ => False⟩ ⟨[.v w0, .v w1, .no, .no], st⟩) : aFn 4 ab_same [w0, w1] st A Ea := h
def sp_same : ASp := fun ws st A _ => ∃ a b : List Exch, ws = [.d (.lst (a.map exD)), .d (.lst (b.map exD))] ∧ a.length ≤ 400 ∧ b.length ≤ 400 ∧ ∀ r : Bool, (r = true ↔ SameV a b) → A (.w (.d (.bl r))) st
theorem red_same (ws st A Ea) (_ : ws.length = 2) (h : sp_same ws st A Ea) : aFn 4 ab_same ws st A Ea := by
  obtain ⟨a, b, rfl, la, lb, q⟩ := h
  refine go_same ?_
  unfold ab_same
  walk_at "z"
  refine ⟨by simp only [List.length_map]; show a.length + b.length ≤ 16777216; omega, a ++ b, by rw [List.map_append], by rw [List.length_append]; omega, fun ss hss => ?_⟩
  walk_at "z"
  refine forGo_ty D.str (fun pre ys s => ∃ y, s = ⟨[.v (.d (.lst (a.map exD))), .v (.d (.lst (b.map exD))), y, .no], st⟩ ∧ ∀ h ∈ pre, viewM h a = viewM h b) ss ?_ ?_ _ ⟨_, rfl, by simp⟩
  · rintro s ⟨y, rfl, h1⟩
    walk_at "z"
    refine q true ⟨fun _ h => ?_, fun _ => rfl⟩
    by_cases hm : h ∈ ss
    · exact h1 h hm
    · have no : ∀ e ∈ a ++ b, hasH h e = false := fun e he => by
        cases z : hasH h e with
        | false => rfl
        | true => exact (hm ((hss h).mpr ⟨e, he, z⟩)).elim
      unfold viewM
      rw [List.filter_eq_nil_iff.mpr fun e he => by rw [no e (List.mem_append_left _ he)]; decide, List.filter_eq_nil_iff.mpr fun e he => by rw [no e (List.mem_append_right _ he)]; decide]
  · rintro pre x ys s k e1 hk ⟨y, rfl, h1⟩
    walk_at "z"
    refine lc_view (by omega) ?_
    walk_at "z"
    refine lc_view (by omega) ?_
    walk_at "z"
    refine ⟨okD_exs _, okD_exs _, ?_⟩
    rw [eqD_exs]
    by_cases z : viewM x a = viewM x b
    · rw [decide_eq_true z]
      simp only [Bool.not_true, Bool.false_eq_true, if_false]
      refine hk _ ⟨_, rfl, fun h hm => ?_⟩
      rcases List.mem_append.mp hm with hm | hm
      · exact h1 h hm
      · rw [List.mem_singleton.mp hm]; exact z
    · rw [decide_eq_false z]
      simp only [Bool.not_false, if_true]
      exact q false ⟨(fun q => by cases q), fun q => (z (q x)).elim⟩
theorem ok_same (T : Top K mg) : FnOk P w K mg base CX0 2 T.a_same T.fd_same ["one", "other"] (SpA 2 sp_same) := by
  refine T.F_same.ok sc_same (fun vs H Q E h => SpA.len h) (fun cdv A outer s H vs Q E hr h => ?_)
  refine ⟨_, (pss_cons (ps_for PassesOwn.never rfl (pi_listK K rfl (pe_call (ok_hands_in T) (hr.mono (by decide)) (by rfl) T.g_hands_in T.F_hands_in.kp T.b_hands_in .nil pass0 (pa_cons (pe_op op_cat (pv 0) (pv 1)) pa_nil))) (pg_name (i := 2) sc_same.nd rfl (Or.inr rfl)) (pss_one (ps_if (pt_cmpR (op_neQ hr.units) (pe_lc (own := [("each", 3)]) (g := gName 3) (tt := _) rfl sc_same.nd (pi_listK K rfl (pv 0)) (blkOk_by (own := [("each", 3)]) (N := ["one", "other", "hand", "each"]) (sc := defScope s_same) (by decide +kernel)) (fun _ _ _ _ _ => (pg_name (i := 3) sc_same.nd rfl (Or.inl rfl))) (fun _ _ _ _ _ => pts_one (pt_cmpR (op_inQ hr.units) (pv 2) (pe_slice (sl_tupK K rfl) (pv 3) po_none (po_some pe_int)) (by rfl))) (fun _ _ _ _ _ => (pv 3))) (pe_lc (own := [("each", 3)]) (g := gName 3) (tt := _) rfl sc_same.nd (pi_listK K rfl (pv 1)) (blkOk_by (own := [("each", 3)]) (N := ["one", "other", "hand", "each"]) (sc := defScope s_same) (by decide +kernel)) (fun _ _ _ _ _ => (pg_name (i := 3) sc_same.nd rfl (Or.inl rfl))) (fun _ _ _ _ _ => pts_one (pt_cmpR (op_inQ hr.units) (pv 2) (pe_slice (sl_tupK K rfl) (pv 3) po_none (po_some pe_int)) (by rfl))) (fun _ _ _ _ _ => (pv 3))) (nomark _)) (pss_one (ps_ret pe_bl)) pss_nil)))
 (pss_one (ps_ret pe_bl))), fn_read (N := ["one", "other", "hand", "each"]) (ab := ab_same) (fun ea => ?_) red_same h⟩
  unfold ab_same
  exact (RS.seq (RS.for (RI.list (RE.fz (RN.call0 (asp := sp_hands_in) (RA.cons (RE.fz (RN.op oCat_ok RE.var RE.var)) RA.nil)))) RG.nm
 (RS.ifs (RT.test (RE.op oNe_ok (RE.fz (RN.lc (RI.list RE.var) RG.nm (RT.test (RE.op oIn_ok RE.var (RE.slT RE.var RO.none (RO.some RE.int)))) RE.var (by decide))) (RE.fz (RN.lc (RI.list RE.var) RG.nm (RT.test (RE.op oIn_ok RE.var (RE.slT RE.var RO.none (RO.some RE.int)))) RE.var (by decide)))))
 (RS.ret (RN.of RE.bl))
 RS.next))
 (RS.ret (RN.of RE.bl)))
def ab_first_order : XA → ASt := fun ea =>
 (aSeq (aAsg 1 (aCBL bList (rCons (aVar 0) rNil)))
 (aSeq (aAsg 2 (aLst aNil))
 (aSeq (aWhile (aT (aOp oNe (aVar 1) (aFz (aLst aNil))))
 (aSeq (aAsg 3 aDNew)
 (aSeq (aAsg 4 (aLst aNil))
 (aSeq (aForE 1 (.tp [(.nm 5), (.nm 6)])
 (aSeq (aIf (aAnd (aT (aDIn true (aOp oIx (aVar 6) (aC (.int 0))) (aVar 3))) (aT (aDIn true (aOp oIx (aVar 6) (aC (.int 1))) (aVar 3))))
 (aDrop (aBM mAppend (aVar 4) (aCons (aTup (aCons (aVar 6) (aCons (aVar 5) aNil))) aNil)))
 aNext)
 (aSeq (aDPut (aVar 3) (aOp oIx (aVar 6) (aC (.int 0))) (aC (.bl true)))
 (aDPut (aVar 3) (aOp oIx (aVar 6) (aC (.int 1))) (aC (.bl true))))))
 (aSeq (aAsgT (.tp [(.nm 6), (.nm 5)]) (aCB bMin (rCons (aVar 4) rNil)))
 (aSeq (aDrop (aBM mAppend (aVar 2) (aCons (aVar 6) aNil)))
 (aDrop (aBM mPopAt (aVar 1) (aCons (aVar 5) aNil)))))))))
 (aRet (aMove 2)))))
theorem go_first_order {w0 : W} {st : List Cell} {A : Zi.N → List Cell → Prop} {Ea : XA} (h : ab_first_order Ea ⟨fun s => A (.w (.d .non)) s.st, A, fun _ => False, fun _ => False⟩ ⟨[.v w0, .no, .no, .no, .no, .no, .no], st⟩) : aFn 7 ab_first_order [w0] st A Ea := h
def sp_first_order : ASp := fun ws st A _ => ∃ es : List Exch, ws = [.d (.lst (es.map exD))] ∧ es.length ≤ 400 ∧ ∀ o, Greedy es o → A (.new (.lst (o.map exD))) st
theorem red_first_order (ws st A Ea) (_ : ws.length = 1) (h : sp_first_order ws st A Ea) : aFn 7 ab_first_order ws st A Ea := by
  obtain ⟨es, rfl, hl, q⟩ := h
  refine go_first_order ?_
  unfold ab_first_order
  walk_at "z"
  refine while_ind (fun m s => ∃ rest found y3 y4 y5 y6, s = ⟨[.v (.d (.lst (es.map exD))), .own (.lst (rest.map exD)), .own (.lst (found.map exD)), y3, y4, y5, y6], st⟩ ∧ m = rest.length ∧ found.length + rest.length = es.length ∧ ∀ o, Greedy rest o → Greedy es (found ++ o)) ?_ es.length _ ⟨es, [], _, _, _, _, rfl, rfl, by simp, fun o h => h⟩
  rintro m s k hk ⟨rest, found, y3, y4, y5, y6, rfl, rfl, hlen, hg⟩
  walk_at "z"
  refine ⟨okD_exs _, ?_⟩
  rw [eqD_nil]
  by_cases hne : rest = []
  · subst hne
    simp only [List.map_nil, List.isEmpty_nil, Bool.not_true, Bool.false_eq_true, if_false]
    have := q found (by have := hg [] .nil; rwa [List.append_nil] at this)
    exact this
  · have hie : (rest.map exD).isEmpty = false := by
      cases rest with
      | nil => exact (hne rfl).elim
      | cons _ _ => rfl
    rw [hie]
    simp only [Bool.not_false, if_true]
    clear hie
    intro a
    rw [enumD_map]
    refine forGo_ty _ (fun pre ys s => ∃ kds frees y5 y6, s = ⟨[.v (.d (.lst (es.map exD))), lent a, .own (.lst (found.map exD)), .own (.dic kds), .own (.lst (frees.map pairD)), y5, y6], st⟩ ∧
      kds.length ≤ 2 * pre.length ∧ frees.length ≤ pre.length ∧ (∀ h : Str, (kds.any fun kv => decide (kv.1 = Sum.inr h)) = true ↔ ∃ p ∈ pre, hasH h p.1 = true) ∧ ∀ p, p ∈ frees ↔ p ∈ pre ∧ FreeAt rest p.2 p.1) _ ?_ ?_ _ ⟨[], [], _, _, rfl, Nat.le_refl _, Nat.le_refl _, by simp, by simp⟩
    · rintro s ⟨kds, frees, y5, y6, rfl, h1, h2, h3, h4⟩
      have h0 : ∃ e, (e, 0) ∈ frees := by
        obtain ⟨e0, rest0, hr⟩ := List.exists_cons_of_ne_nil hne
        exact ⟨e0, (h4 _).mpr ⟨by rw [hr]; exact List.mem_cons_self, by rw [hr]; exact ⟨rfl, by simp⟩⟩⟩
      obtain ⟨_, h0⟩ := h0
      cases frees with
      | nil => cases h0
      | cons f0 fs =>
        rw [List.map_cons]
        walk_at "z"
        have ok := pairs_ok (ps := f0 :: fs)
        rw [← pyAll_pairs, List.map_cons] at ok
        refine ⟨ok.1, ok.2.1, ok.2.2, fun i z hz hm => ?_⟩
        rw [← List.map_cons] at hz
        obtain ⟨⟨e, ie⟩, hp, rfl⟩ := List.mem_map.mp (List.mem_of_getElem? hz)
        rw [pyAll_pairs] at hm
        have least := pairs_min hm
        have fe := (h4 _).mp hp
        have hpe : pairD (e, ie) = .tup [exD e, .int (ie : Int)] := rfl
        obtain ⟨hil, hie⟩ := List.getElem?_eq_some_iff.mp fe.2.1
        have sj := seqIx (n := (rest.map exD).length) (j := ie) (by rw [List.length_map]; exact hil)
        have gx : (rest.map exD)[ie]? = some (exD e) := by rw [List.getElem?_map, fe.2.1]; rfl
        have er : (rest.map exD).eraseIdx ie = (rest.eraseIdx ie).map exD := map_erase.symm
        have le : (rest.eraseIdx ie).length = rest.length - 1 := List.length_eraseIdx_of_lt hil
        rw [← List.map_cons]
        have least' : ∀ k' e', FreeAt rest k' e' → lt e' e = false := fun k' e' f => least (e', k') ((h4 _).mpr ⟨List.mem_iff_getElem?.mpr ⟨k', by rw [List.getElem?_zipIdx, f.1]; simp⟩, f⟩)
        clear least
        have lr : rest.length ≤ 400 := by omega
        walk_at "z"
        refine ⟨by rw [List.length_map]; show found.length < 16777216; omega, by omega, by omega, hk _ _ (by omega) ⟨rest.eraseIdx ie, found ++ [e], _, _, _, _, by rw [List.map_append]; rfl, rfl, by rw [List.length_append, List.length_singleton]; omega, fun o g => ?_⟩⟩
        rw [List.append_assoc]
        exact hg _ (.cons fe.2 least' g)
    · rintro pre x ys s k' e1 hk' ⟨kds, frees, y5, y6, rfl, h1, h2, h3, h4⟩
      obtain ⟨x, ix⟩ := x
      have hx : exD x = .tup [.str x.1, .str x.2.1, .str x.2.2] := rfl
      have hpre : pre.length ≤ 400 := by
        have := congrArg List.length e1
        rw [List.length_zipIdx, List.length_append] at this
        omega
      have z1 := putZ_len (kds := kds) (k := Sum.inr x.1) (v := D.bl true)
      have z2 := putZ_len (kds := putZ kds (Sum.inr x.1) (D.bl true)) (k := Sum.inr x.2.1) (v := D.bl true)
      have big : (10000 : Nat) < sizeLine := by decide
      have any2 : ∀ h : Str, ((putZ (putZ kds (Sum.inr x.1) (D.bl true)) (Sum.inr x.2.1) (D.bl true)).any fun kv => decide (kv.1 = Sum.inr h)) = true ↔ ∃ p ∈ pre ++ [(x, ix)], hasH h p.1 = true := fun h => by
        rw [putZ_any, putZ_any, Bool.or_eq_true, Bool.or_eq_true, h3]
        simp only [List.mem_append, List.mem_singleton, decide_eq_true_eq, Sum.inr.injEq]
        unfold hasH
        simp only [Bool.or_eq_true, beq_iff_eq]
        constructor
        · rintro (e | e | ⟨p, hp, q⟩)
          · exact ⟨(x, ix), .inr rfl, .inr e⟩
          · exact ⟨(x, ix), .inr rfl, .inl e⟩
          · exact ⟨p, .inl hp, q⟩
        · rintro ⟨p, hp | rfl, q⟩
          · exact .inr (.inr ⟨p, hp, q⟩)
          · rcases q with q | q
            · exact .inr (.inl q)
            · exact .inl q
      have fi := free_iff e1
      rw [← h3, ← h3] at fi
      walk_at "z"
      rw [dget_any, dget_any]
      have no : ¬ FreeAt rest ix x → ∀ p, p ∈ frees ↔ p ∈ pre ++ [(x, ix)] ∧ FreeAt rest p.2 p.1 := fun nf p => by
        rw [h4, List.mem_append, List.mem_singleton]
        constructor
        · rintro ⟨a, b⟩; exact ⟨.inl a, b⟩
        · rintro ⟨a | rfl, b⟩
          · exact ⟨a, b⟩
          · exact (nf b).elim
      have fin : ¬ FreeAt rest ix x → kds.length < sizeLine ∧ (putZ kds (Sum.inr x.1) (D.bl true)).length < sizeLine ∧ k' ⟨[.v (.d (.lst (es.map exD))), lent a, .own (.lst (found.map exD)), .own (.dic (putZ (putZ kds (Sum.inr x.1) (D.bl true)) (Sum.inr x.2.1) (D.bl true))), .own (.lst (frees.map pairD)), .v (.d (.int (ix : Int))), .v (.d (exD x))], st⟩ := fun nf =>
        ⟨by omega, by omega, hk' _ ⟨_, _, _, _, rfl, by rw [List.length_append, List.length_singleton]; omega, by rw [List.length_append, List.length_singleton]; omega, any2, no nf⟩⟩
      cases b1 : (kds.any fun kv => decide (kv.1 = Sum.inr x.1)) with
      | true =>
        simp only [Bool.not_true, Bool.false_eq_true, if_false]
        exact fin fun f => by rw [fi, b1] at f; exact f.1 rfl
      | false =>
        simp only [Bool.not_false, if_true]
        cases b2 : (kds.any fun kv => decide (kv.1 = Sum.inr x.2.1)) with
        | true =>
          simp only [Bool.not_true, Bool.false_eq_true, if_false]
          exact fin fun f => by rw [fi, b2] at f; exact f.2 rfl
        | false =>
          simp only [Bool.not_false, if_true]
          have ff : FreeAt rest ix x := by rw [fi, b1, b2]; simp
          refine ⟨by omega, by rw [List.length_map]; omega, by omega, by omega, hk' _ ⟨_, frees ++ [(x, ix)], _, _, by rw [List.map_append]; rfl, by rw [List.length_append, List.length_singleton]; omega, by simp only [List.length_append, List.length_singleton]; omega, any2, fun p => ?_⟩⟩
          rw [List.mem_append, List.mem_append, List.mem_singleton, h4]
          constructor
          · rintro (⟨a, b⟩ | rfl)
            · exact ⟨.inl a, b⟩
            · exact ⟨.inr rfl, ff⟩
          · rintro ⟨a | a, b⟩
            · exact .inl ⟨a, b⟩
            · exact .inr a
theorem ok_first_order (T : Top K mg) : FnOk P w K mg base CX0 1 T.a_first_order T.fd_first_order ["history"] (SpA 1 sp_first_order) := by
  refine T.F_first_order.ok sc_first_order (fun vs H Q E h => SpA.len h) (fun cdv A outer s H vs Q E hr h => ?_)
  refine ⟨_, (pss_cons (ps_set (i := 1) sc_first_order.nd rfl (Or.inl rfl) (pe_callTy (call_listK K rfl) (by rfl) T.z_list (by decide +kernel) (pa_cons (pv 0) pa_nil)))
 (pss_cons (ps_set (i := 2) sc_first_order.nd rfl (Or.inl rfl) (pe_lst pa_nil))
 (pss_cons (ps_while PassesOwn.never (pt_cmpR (op_neQ hr.units) (pv 1) (pe_lst pa_nil) (nomark _)) (pss_cons (ps_set (i := 3) sc_first_order.nd rfl (Or.inl rfl) pe_dnewK)
 (pss_cons (ps_set (i := 4) sc_first_order.nd rfl (Or.inl rfl) (pe_lst pa_nil))
 (pss_cons (ps_for PassesOwn.never rfl (pi_enum (by rfl) T.z_enumerate (pa_cons (pv 1) pa_nil)) (pg_tup (by rfl) (pgs_cons (pg_name (i := 5) sc_first_order.nd rfl (Or.inl rfl)) (pgs_cons (pg_name (i := 6) sc_first_order.nd rfl (Or.inl rfl)) pgs_nil))) (pss_cons (ps_if (PW.pt (pw_and (pt_cmp (pc_dnotin (hu_of hr) (pe_ix (ix_seqK K rfl) (pv 6) pe_int (fun _ _ => rfl)) (pv 3))) (pw_and1 (pt_cmp (pc_dnotin (hu_of hr) (pe_ix (ix_seqK K rfl) (pv 6) pe_int (fun _ _ => rfl)) (pv 3)))))) (pss_one (ps_expr (bmK K rfl (pe_bm PySem.F.plainAttrs_list PySem.F.slot_list_append PySem.F.type_list_append mt_append (pv 4) (pa_cons (pe_tup (pa_cons (pv 6) (pa_cons (pv 5) pa_nil))) pa_nil))))) pss_nil)
 (pss_cons (ps_dput (hu_of hr) (pv 3) (pe_ix (ix_seqK K rfl) (pv 6) pe_int (fun _ _ => rfl)) pe_bl rfl)
 (pss_one (ps_dput (hu_of hr) (pv 3) (pe_ix (ix_seqK K rfl) (pv 6) pe_int (fun _ _ => rfl)) pe_bl rfl)))))
 (pss_cons (ps_asg (pe_callB (cr_minD rfl hr.units) (by rfl) T.z_min (by decide +kernel) (pa_cons (pv 4) pa_nil)) (pg_tup (by rfl) (pgs_cons (pg_name (i := 6) sc_first_order.nd rfl (Or.inl rfl)) (pgs_cons (pg_name (i := 5) sc_first_order.nd rfl (Or.inl rfl)) pgs_nil))))
 (pss_cons (ps_expr (bmK K rfl (pe_bm PySem.F.plainAttrs_list PySem.F.slot_list_append PySem.F.type_list_append mt_append (pv 2) (pa_cons (pv 6) pa_nil))))
 (pss_one (ps_expr (bmK K rfl (pe_bm PySem.F.plainAttrs_list PySem.F.slot_list_pop PySem.F.type_list_pop mt_popAt (pv 1) (pa_cons (pv 5) pa_nil)))))))))))
 (pss_one (ps_ret (pv 2)))))), fn_read (N := ["history", "rest", "found", "busy", "free", "number", "exchange"]) (ab := ab_first_order) (fun ea => ?_) red_first_order h⟩
  unfold ab_first_order
  exact (RS.seq (RS.asg (RN.cb bList_ok (RR.cons RE.var RR.nil)))
 (RS.seq (RS.asg (RN.lst RA.nil))
 (RS.seq (RS.while (RT.test (RE.op oNe_ok RE.var (RE.fz (RN.lst RA.nil))))
 (RS.seq (RS.asg RN.dnew)
 (RS.seq (RS.asg (RN.lst RA.nil))
 (RS.seq (RS.forE (RG.tp (RGs.cons RG.nm (RGs.cons RG.nm RGs.nil)) rfl)
 (RS.seq (RS.ifs (RT.and (RT.b (RE.dnin (RE.op oIx_ok RE.var RE.int) RE.var)) (RT.b (RE.dnin (RE.op oIx_ok RE.var RE.int) RE.var)))
 (RS.drop (RE.bm mAppend_ok RE.var (RA.cons (RE.tup (RA.cons RE.var (RA.cons RE.var RA.nil))) RA.nil)))
 RS.next)
 (RS.seq (RS.dput RE.var (RE.op oIx_ok RE.var RE.int) RE.bl)
 (RS.dput RE.var (RE.op oIx_ok RE.var RE.int) RE.bl))))
 (RS.seq (RS.asgT (RE.cb bMin_ok (RR.cons RE.var RR.nil)) (RG.tp (RGs.cons RG.nm (RGs.cons RG.nm RGs.nil)) rfl))
 (RS.seq (RS.drop (RE.bm mAppend_ok RE.var (RA.cons RE.var RA.nil)))
 (RS.drop (RE.bm mPopAt_ok RE.var (RA.cons RE.var RA.nil)))))))))
 (RS.ret RN.move))))
end
end K06

set_option Elab.async false
set_option linter.all false
set_option maxRecDepth 100000
set_option maxHeartbeats 400000
namespace K06
open PySem PySem.Spec PyProof.Rows L2 Ly Zi Zs Lc
open PySem.W (minD AlikeAll)
local macro_rules | `(tactic| walk_at "z") => `(tactic| simp (config := { dsimp := false }) only [aSeq, aIf, aT, aYes, aAnd, aOr, aNot, aOp, aOpL, aUn, aVar, aC, aRaw, aMove, pk, q_peek_w, q_peek_s, q_peekW_d, q_peekW_loc, q_cellD_lst, q_cellD_dic, ↓q_toW_w, q_toW_w, ↓q_toW_s, q_toW_s, ↓q_toL_w, q_toL_w, ↓q_toL_s, q_toL_s, ↓q_nToW_w, q_nToW_w, ↓q_nToW_lst, q_nToW_lst, ↓q_nToW_dic, q_nToW_dic, q_put_w, q_put_n, q_getC_loc, q_getC_s, q_putC_loc, q_putC_s, aFz, aN, aAsg, aAsgT, q_bind_nm, q_bind_tp, q_binds_nil, q_binds_cons, aRet, aRetN, aDrop, aDropN, aNext, aBreak, aCont, aAug, aSetIx, aDPut, aCall, aCons, aConsL, aNil, aLst, aTup, lstC, wsD, rCons, rNil, pks, aCB, aCBL, aBM, aBM0, isL, mAppend, mPop, mPopAt,
  aSlL, aSlT, aRevL, aNo, aSome, aAndV, aOrV, aNotV, aIfE, aChain, aDIn, aDGet, aDNew, withDic, Zi.keyOf, cut2, part32, eqD_str, inD2, all_str2, aFor, aForE, comesBack, aLc, aSortSet, aPutS, aCl, aIL, aIT, aIR1, aIR2, aIE, aIZ, aIS, wipeE, backE,
  oAdd, oSub, oMul, oMulW, oMod, oDiv, oDivW, oPow, oLt, oLe, oGt, oGe, oI, oIc, oEq, oNe, oIn, oIx, oCat, oAddS, oInS, oIs, oIsNot, oIsB, oIsNB, isNon, oNeg, oBits, bLen, bList, bMax2, bMin2, bMin, aIsi, aSetSl, tyN, kit_NoneType_bool, kit_NoneType_int, kit_NoneType_str, kit_NoneType_list, kit_NoneType_tuple, kit_NoneType_dict, kit_bool_bool, kit_bool_int, kit_bool_str, kit_bool_list, kit_bool_tuple, kit_bool_dict, kit_int_bool, kit_int_int, kit_int_str, kit_int_list, kit_int_tuple, kit_int_dict, kit_str_bool, kit_str_int, kit_str_str, kit_str_list, kit_str_tuple, kit_str_dict, kit_list_bool, kit_list_int, kit_list_str, kit_list_list, kit_list_tuple, kit_list_dict, kit_tuple_bool, kit_tuple_int, kit_tuple_str, kit_tuple_list, kit_tuple_tuple, kit_tuple_dict, kit_dict_bool, kit_dict_int, kit_dict_str, kit_dict_list, kit_dict_tuple, kit_dict_dict, 
  List.getElem?_cons_zero, List.getElem?_cons_succ, List.set_cons_zero, List.set_cons_succ, List.length_cons, List.length_nil, List.set_set, List.getElem?_set_self, Nat.zero_le, okD_nil, okD_str, okD_int, okD_bl, okD_non, ea0, at0, at1, at2, at3, ix0, ix1, ix2, true_and, and_true, Bool.false_eq_true, Bool.not_true, Bool.not_false, ↓reduceIte, *])
local macro_rules | `(tactic| walk_at "y") => `(tactic| simp only [aSeq, aIf, aT, aYes, aAnd, aOr, aNot, aOp, aOpL, aUn, aVar, aC, aRaw, aMove, pk, q_peek_w, q_peek_s, q_peekW_d, q_peekW_loc, q_cellD_lst, q_cellD_dic, ↓q_toW_w, q_toW_w, ↓q_toW_s, q_toW_s, ↓q_toL_w, q_toL_w, ↓q_toL_s, q_toL_s, ↓q_nToW_w, q_nToW_w, ↓q_nToW_lst, q_nToW_lst, ↓q_nToW_dic, q_nToW_dic, q_put_w, q_put_n, q_getC_loc, q_getC_s, q_putC_loc, q_putC_s, aFz, aN, aAsg, aAsgT, q_bind_nm, q_bind_tp, q_binds_nil, q_binds_cons, aRet, aRetN, aDrop, aDropN, aNext, aBreak, aCont, aAug, aSetIx, aDPut, aCall, aCons, aConsL, aNil, aLst, aTup, lstC, wsD, rCons, rNil, pks, aCB, aCBL, aBM, aBM0, isL, mAppend, mPop, mPopAt,
  aSlL, aSlT, aRevL, aNo, aSome, aAndV, aOrV, aNotV, aIfE, aChain, aDIn, aDGet, aDNew, withDic, Zi.keyOf, cut2, part32, eqD_str, inD2, all_str2, aFor, aForE, comesBack, aLc, aSortSet, aPutS, aCl, aIL, aIT, aIR1, aIR2, aIE, aIZ, aIS, wipeE, backE,
  oAdd, oSub, oMul, oMulW, oMod, oDiv, oDivW, oPow, oLt, oLe, oGt, oGe, oI, oIc, oEq, oNe, oIn, oIx, oCat, oAddS, oInS, oIs, oIsNot, oIsB, oIsNB, isNon, oNeg, oBits, bLen, bList, bMax2, bMin2, bMin, aIsi, aSetSl, tyN, kit_NoneType_bool, kit_NoneType_int, kit_NoneType_str, kit_NoneType_list, kit_NoneType_tuple, kit_NoneType_dict, kit_bool_bool, kit_bool_int, kit_bool_str, kit_bool_list, kit_bool_tuple, kit_bool_dict, kit_int_bool, kit_int_int, kit_int_str, kit_int_list, kit_int_tuple, kit_int_dict, kit_str_bool, kit_str_int, kit_str_str, kit_str_list, kit_str_tuple, kit_str_dict, kit_list_bool, kit_list_int, kit_list_str, kit_list_list, kit_list_tuple, kit_list_dict, kit_tuple_bool, kit_tuple_int, kit_tuple_str, kit_tuple_list, kit_tuple_tuple, kit_tuple_dict, kit_dict_bool, kit_dict_int, kit_dict_str, kit_dict_list, kit_dict_tuple, kit_dict_dict, 
  List.getElem?_cons_zero, List.getElem?_cons_succ, List.set_cons_zero, List.set_cons_succ, List.length_cons, List.length_nil, List.set_set, List.getElem?_set_self, Nat.zero_le, okD_nil, okD_str, okD_int, okD_bl, okD_non, ea0, at0, at1, at2, at3, ix0, ix1, ix2, true_and, and_true, Bool.false_eq_true, Bool.not_true, Bool.not_false, ↓reduceIte, *])

/-- [x for x in es if h in x[:2]], with other slots -/
theorem lc_view5 {h : Str} {es : List Exch} {e0 e1 e2 e4 : Sl} {st : List Cell} {k : List D → AS → Prop} (hl : es.length ≤ 1000) (hk : k ((viewM h es).map exD) ⟨[e0, e1, e2, .v (.d (.str h)), e4, .no], st⟩) :
    lcGo (.nm 5) (aT (aOp (oIn false) (aVar 3) (aSlT (aVar 5) aNo (aSome (aC (.int 2)))))) (aVar 5) [5] k (es.map exD) ⟨[e0, e1, e2, .v (.d (.str h)), e4, .no], st⟩ [] := by
  refine lcGo_ty exD (hasH h) exD es (by omega) (fun x _ => ⟨_, rfl, rfl, fun A hA => ?_, fun _ A hA => ?_⟩) hk
  · have hx : exD x = .tup [.str x.1, .str x.2.1, .str x.2.2] := rfl
    have hh : hasH h x = (x.1 == h || x.2.1 == h) := rfl
    walk_at "y"
    rw [← hh, ← hx]
    exact hA
  · walk_at "y"
    exact hA
def NAMES : List Str := ["a", "ab", "b", "ba", "c", "zoe", "abcdefgh", "m", "mm", "z"]
theorem names_c : lstC [W.d (.str "a"), W.d (.str "ab"), W.d (.str "b"), W.d (.str "ba"), W.d (.str "c"), W.d (.str "zoe"), W.d (.str "abcdefgh"), W.d (.str "m"), W.d (.str "mm"), W.d (.str "z")] = .lst (NAMES.map D.str) := rfl
theorem okE_str (s : Str) : okE (.str s) := ⟨rfl, Nat.zero_le _⟩
theorem cut_to {xs : List D} {k : Nat} : cutZ xs none (some (k : Int)) = xs.take k := by
  unfold cutZ
  rw [HT.sIx_none, HT.sIx_nat, List.drop_zero, Nat.sub_zero]
  by_cases h : k ≤ xs.length
  · rw [Nat.min_eq_left h]
  · rw [Nat.min_eq_right (by omega), List.take_length, List.take_of_length_le (by omega)]
theorem perm_strs {l : List D} {ss : List Str} (h : l.Perm (ss.map D.str)) : ∃ us : List Str, l = us.map D.str ∧ us.Perm ss := by
  obtain ⟨l', h1, h2⟩ := Ly.perm_map_ex D.str (fun | .str s => s | _ => "") (fun _ => rfl) h
  exact ⟨l', h1, h2⟩
section
variable {P : Program} {w : World} {K : PySem.W.Frag} {mg : Str → Option Value} {base : Heap}
def ab_law_apart : XA → ASt := fun ea =>
 (aRet (aN (aOp oEq (aFz (aLc (aIT (aSlT (aVar 0) aNo (aSome (aC (.int 2))))) (.nm 2) (aT (aOp (oIn false) (aVar 2) (aSlT (aVar 1) aNo (aSome (aC (.int 2)))))) (aVar 2) [2])) (aFz (aLst aNil)))))
theorem go_law_apart {w0 w1 : W} {st : List Cell} {A : Zi.N → List Cell → Prop} {Ea : XA} (h : ab_law_apart Ea ⟨fun s => A (.w (.d .non)) s.st, A, fun _ => False, fun _ => False⟩ ⟨[.v w0, .v w1, .no], st⟩) : aFn 3 ab_law_apart [w0, w1] st A Ea := h
def sp_law_apart : ASp := fun ws st A _ => ∃ a b : Exch, ws = [.d (exD a), .d (exD b)] ∧ A (.w (.d (.bl (apart a b)))) st
theorem red_law_apart (ws st A Ea) (_ : ws.length = 2) (h : sp_law_apart ws st A Ea) : aFn 3 ab_law_apart ws st A Ea := by
  obtain ⟨a, b, rfl, q⟩ := h
  refine go_law_apart ?_
  have ha : exD a = .tup [.str a.1, .str a.2.1, .str a.2.2] := rfl
  have hb : exD b = .tup [.str b.1, .str b.2.1, .str b.2.2] := rfl
  unfold ab_law_apart
  walk_at "y"
  refine lcGo_ty D.str (fun h => hasH h b) D.str [a.1, a.2.1] (by simp) (fun x _ => ⟨_, rfl, rfl, fun A hA => ?_, fun _ A hA => ?_⟩) ?_
  · have hh : hasH x b = (b.1 == x || b.2.1 == x) := rfl
    walk_at "y"
    rw [← hh, ← hb]
    exact hA
  · walk_at "y"
    exact hA
  · walk_at "y"
    refine ⟨okD_lst fun d hd => ?_, ?_⟩
    · obtain ⟨s, _, rfl⟩ := List.mem_map.mp hd
      exact ⟨rfl, Nat.zero_le _⟩
    · rw [eqD_nil]
      have : (List.map D.str (List.filter (fun h => hasH h b) [a.1, a.2.1])).isEmpty = apart a b := by
        unfold apart
        simp only [List.filter_cons, List.filter_nil]
        cases hasH a.1 b <;> cases hasH a.2.1 b <;> rfl
      rw [this]
      exact q
theorem ok_law_apart (T : Top K mg) : FnOk P w K mg base CX0 1 T.a_law_apart T.fd_law_apart ["_law_one", "_law_other"] (SpA 2 sp_law_apart) := by
  refine T.F_law_apart.ok sc_law_apart (fun vs H Q E h => SpA.len h) (fun cdv A outer s H vs Q E hr h => ?_)
  refine ⟨_, (pss_one (ps_ret (pe_cmpR (op_eqQ hr.units) (pe_lc (own := [("_law_name", 2)]) (g := gName 2) (tt := _) rfl sc_law_apart.nd (pi_tupK K rfl (pe_slice (sl_tupK K rfl) (pv 0) po_none (po_some pe_int))) (blkOk_by (own := [("_law_name", 2)]) (N := ["_law_one", "_law_other", "_law_name"]) (sc := defScope s_law_apart) (by decide +kernel)) (fun _ _ _ _ _ => (pg_name (i := 2) sc_law_apart.nd rfl (Or.inl rfl))) (fun _ _ _ _ _ => pts_one (pt_cmpR (op_inQ hr.units) (pv 2) (pe_slice (sl_tupK K rfl) (pv 1) po_none (po_some pe_int)) (by rfl))) (fun _ _ _ _ _ => (pv 2))) (pe_lst pa_nil) (nomark _)))), fn_read (N := ["_law_one", "_law_other", "_law_name"]) (ab := ab_law_apart) (fun ea => ?_) red_law_apart h⟩
  unfold ab_law_apart
  exact (RS.ret (RN.of (RE.op oEq_ok (RE.fz (RN.lc (RI.tup (RE.slT RE.var RO.none (RO.some RE.int))) RG.nm (RT.test (RE.op oIn_ok RE.var (RE.slT RE.var RO.none (RO.some RE.int)))) RE.var (by decide))) (RE.fz (RN.lst RA.nil)))))
def ab_law_views_same : XA → ASt := fun ea =>
 (aSeq (aFor (aIL (aVar 2)) (.nm 3)
 (aSeq (aAsg 4 (aLc (aIL (aVar 0)) (.nm 5) (aT (aOp (oIn false) (aVar 3) (aSlT (aVar 5) aNo (aSome (aC (.int 2)))))) (aVar 5) [5]))
 (aIf (aT (aOp oNe (aVar 4) (aFz (aLc (aIL (aVar 1)) (.nm 5) (aT (aOp (oIn false) (aVar 3) (aSlT (aVar 5) aNo (aSome (aC (.int 2)))))) (aVar 5) [5]))))
 (aRet (aN (aC (.bl false))))
 aNext)))
 (aRet (aN (aC (.bl true)))))
theorem go_law_views_same {w0 w1 w2 : W} {st : List Cell} {A : Zi.N → List Cell → Prop} {Ea : XA} (h : ab_law_views_same Ea ⟨fun s => A (.w (.d .non)) s.st, A, fun _ => False, fun _ => False⟩ ⟨[.v w0, .v w1, .v w2, .no, .no, .no], st⟩) : aFn 6 ab_law_views_same [w0, w1, w2] st A Ea := h
def sp_law_views_same : ASp := fun ws st A _ => ∃ (a b : List Exch) (ss : List Str), ws = [.d (.lst (a.map exD)), .d (.lst (b.map exD)), .d (.lst (ss.map D.str))] ∧ a.length ≤ 400 ∧ b.length ≤ 400 ∧ ∀ r : Bool, (r = true ↔ ∀ h ∈ ss, viewM h a = viewM h b) → A (.w (.d (.bl r))) st
theorem red_law_views_same (ws st A Ea) (_ : ws.length = 3) (h : sp_law_views_same ws st A Ea) : aFn 6 ab_law_views_same ws st A Ea := by
  obtain ⟨a, b, ss, rfl, la, lb, q⟩ := h
  refine go_law_views_same ?_
  unfold ab_law_views_same
  walk_at "y"
  refine forGo_ty D.str (fun pre ys s => ∃ y3 y4, s = ⟨[.v (.d (.lst (a.map exD))), .v (.d (.lst (b.map exD))), .v (.d (.lst (ss.map D.str))), y3, y4, .no], st⟩ ∧ ∀ h ∈ pre, viewM h a = viewM h b) ss ?_ ?_ _ ⟨_, _, rfl, by simp⟩
  · rintro s ⟨y3, y4, rfl, h1⟩
    walk_at "y"
    exact q true ⟨fun _ h hm => h1 h hm, fun _ => rfl⟩
  · rintro pre x ys s k e1 hk ⟨y3, y4, rfl, h1⟩
    have hxs : x ∈ ss := by rw [e1]; simp
    clear e1
    walk_at "y"
    refine lc_view5 (by omega) ?_
    walk_at "y"
    refine lc_view5 (by omega) ?_
    walk_at "y"
    refine ⟨okD_exs _, okD_exs _, ?_⟩
    rw [eqD_exs]
    by_cases z : viewM x a = viewM x b
    · rw [decide_eq_true z]
      simp only [Bool.not_true, Bool.false_eq_true, if_false]
      refine hk _ ⟨_, _, rfl, fun h hm => ?_⟩
      rcases List.mem_append.mp hm with hm | hm
      · exact h1 h hm
      · rw [List.mem_singleton.mp hm]; exact z
    · rw [decide_eq_false z]
      simp only [Bool.not_false, if_true]
      exact q false ⟨(fun q => by cases q), fun q => (z (q x hxs)).elim⟩
theorem ok_law_views_same (T : Top K mg) : FnOk P w K mg base CX0 1 T.a_law_views_same T.fd_law_views_same ["_law_one", "_law_other", "_law_people"] (SpA 3 sp_law_views_same) := by
  refine T.F_law_views_same.ok sc_law_views_same (fun vs H Q E h => SpA.len h) (fun cdv A outer s H vs Q E hr h => ?_)
  refine ⟨_, (pss_cons (ps_for PassesOwn.never rfl (pi_listK K rfl (pv 2)) (pg_name (i := 3) sc_law_views_same.nd rfl (Or.inr rfl)) (pss_cons (ps_setLc (i := 4) (own := [("_law_exchange_here", 5)]) (g := gName 5) (tt := _) rfl sc_law_views_same.nd rfl rfl (sw_true rfl rfl rfl (by decide +kernel)) (pi_listK K rfl (pv 0)) (blkOk_by (own := [("_law_exchange_here", 5)]) (N := ["_law_one", "_law_other", "_law_people", "_law_name", "_law_mine", "_law_exchange_here"]) (sc := defScope s_law_views_same) (by decide +kernel)) (fun _ _ _ _ _ => (pg_name (i := 5) sc_law_views_same.nd rfl (Or.inl rfl))) (fun _ _ _ _ _ => pts_one (pt_cmpR (op_inQ hr.units) (pv 3) (pe_slice (sl_tupK K rfl) (pv 5) po_none (po_some pe_int)) (by rfl))) (fun _ _ _ _ _ => (pv 5)))
 (pss_one (ps_if (pt_cmpR (op_neQ hr.units) (pv 4) (pe_lc (own := [("_law_exchange_here", 5)]) (g := gName 5) (tt := _) rfl sc_law_views_same.nd (pi_listK K rfl (pv 1)) (blkOk_by (own := [("_law_exchange_here", 5)]) (N := ["_law_one", "_law_other", "_law_people", "_law_name", "_law_mine", "_law_exchange_here"]) (sc := defScope s_law_views_same) (by decide +kernel)) (fun _ _ _ _ _ => (pg_name (i := 5) sc_law_views_same.nd rfl (Or.inl rfl))) (fun _ _ _ _ _ => pts_one (pt_cmpR (op_inQ hr.units) (pv 3) (pe_slice (sl_tupK K rfl) (pv 5) po_none (po_some pe_int)) (by rfl))) (fun _ _ _ _ _ => (pv 5))) (nomark _)) (pss_one (ps_ret pe_bl)) pss_nil))))
 (pss_one (ps_ret pe_bl))), fn_read (N := ["_law_one", "_law_other", "_law_people", "_law_name", "_law_mine", "_law_exchange_here"]) (ab := ab_law_views_same) (fun ea => ?_) red_law_views_same h⟩
  unfold ab_law_views_same
  exact (RS.seq (RS.for (RI.list RE.var) RG.nm
 (RS.seq (RS.asg (RN.lc (RI.list RE.var) RG.nm (RT.test (RE.op oIn_ok RE.var (RE.slT RE.var RO.none (RO.some RE.int)))) RE.var (by decide)))
 (RS.ifs (RT.test (RE.op oNe_ok RE.var (RE.fz (RN.lc (RI.list RE.var) RG.nm (RT.test (RE.op oIn_ok RE.var (RE.slT RE.var RO.none (RO.some RE.int)))) RE.var (by decide)))))
 (RS.ret (RN.of RE.bl))
 RS.next)))
 (RS.ret (RN.of RE.bl)))
def ab_law_names : XA → ASt := fun ea =>
 (aSeq (aAsg 2 (aLst (aCons (aC (.str "a")) (aCons (aC (.str "ab")) (aCons (aC (.str "b")) (aCons (aC (.str "ba")) (aCons (aC (.str "c")) (aCons (aC (.str "zoe")) (aCons (aC (.str "abcdefgh")) (aCons (aC (.str "m")) (aCons (aC (.str "mm")) (aCons (aC (.str "z")) aNil))))))))))))
 (aRet (aSlL (aFz (aCall ea0 2 sp_law_order (aConsL (aVar 0) (aCons (aVar 2) aNil)))) aNo (aSome (aVar 1)))))
theorem go_law_names {w0 w1 : W} {st : List Cell} {A : Zi.N → List Cell → Prop} {Ea : XA} (h : ab_law_names Ea ⟨fun s => A (.w (.d .non)) s.st, A, fun _ => False, fun _ => False⟩ ⟨[.v w0, .v w1, .no], st⟩) : aFn 3 ab_law_names [w0, w1] st A Ea := h
def sp_law_names : ASp := fun ws st A _ => ∃ (p m : Nat) (a b c : Int), ws = [.loc p, .d (.int (m : Int))] ∧ m ≤ 10 ∧ st[p]? = some (Pur a b c) ∧ PurOk a b c ∧ c + 20 ≤ 1000000 ∧
  ∀ (L : List Str) (a' b' c' : Int), L.length = m → PurOk a' b' c' → c ≤ c' → c' ≤ c + 20 → A (.new (.lst (L.map D.str))) (st.set p (Pur a' b' c'))
theorem red_law_names (ws st A Ea) (_ : ws.length = 2) (h : sp_law_names ws st A Ea) : aFn 3 ab_law_names ws st A Ea := by
  obtain ⟨p, m, a, b, c, rfl, hm, hp, hpo, hc, q⟩ := h
  refine go_law_names ?_
  unfold ab_law_names
  refine ⟨(by decide : (10 : Nat) ≤ sizeLine), ?_⟩
  rw [names_c]
  generalize hN : NAMES = nms
  walk_at "y"
  subst hN
  refine ⟨p, NAMES.map D.str, a, b, c, rfl, fun d hd => ?_, by decide, hp, hpo, by show c + 2 * 10 ≤ _; omega, fun ds' a' b' c' pm po h1 h2 => ?_⟩
  · obtain ⟨s, _, rfl⟩ := List.mem_map.mp hd
    exact okE_str s
  · obtain ⟨us, rfl, pu⟩ := perm_strs pm
    walk_at "y"
    rw [cut_to, ← List.map_take]
    have hl : us.length = 10 := pu.length_eq
    exact q _ a' b' c' (by rw [List.length_take, hl]; omega) po h1 h2
theorem ok_law_names (T : Top K mg) : FnOk P w K mg base CX0 4 T.a_law_names T.fd_law_names ["_law_purse_here", "_law_many"] (SpA 2 sp_law_names) := by
  refine T.F_law_names.ok sc_law_names (fun vs H Q E h => SpA.len h) (fun cdv A outer s H vs Q E hr h => ?_)
  refine ⟨_, (pss_cons (ps_set (i := 2) sc_law_names.nd rfl (Or.inl rfl) (pe_lst (pa_cons pe_str (pa_cons pe_str (pa_cons pe_str (pa_cons pe_str (pa_cons pe_str (pa_cons pe_str (pa_cons pe_str (pa_cons pe_str (pa_cons pe_str (pa_cons pe_str pa_nil))))))))))))
 (pss_one (ps_ret (pe_slice (sl_listK K rfl) (pe_call (ok_law_order T) (hr.mono (by decide)) (by rfl) T.g_law_order T.F_law_order.kp T.b_law_order .nil pass0 (pa_cons (pv 0) (pa_cons (pv 2) pa_nil))) po_none (po_some (pv 1)))))), fn_read (N := ["_law_purse_here", "_law_many", "_law_some"]) (ab := ab_law_names) (fun ea => ?_) red_law_names h⟩
  unfold ab_law_names
  exact (RS.seq (RS.asg (RN.lst (RA.cons RE.str (RA.cons RE.str (RA.cons RE.str (RA.cons RE.str (RA.cons RE.str (RA.cons RE.str (RA.cons RE.str (RA.cons RE.str (RA.cons RE.str (RA.cons RE.str RA.nil))))))))))))
 (RS.ret (RN.slL (RE.fz (RN.call0 (asp := sp_law_order) (RA.consL RE.var (RA.cons RE.var RA.nil)))) RO.none (RO.some RE.var))))
def ab_law_exchange : XA → ASt := fun ea =>
 (aSeq (aAsg 2 (aSlL (aFz (aCall ea0 2 sp_law_order (aConsL (aVar 0) (aCons (aVar 1) aNil)))) aNo (aSome (aC (.int 2)))))
 (aRet (aN (aTup (aCons (aOp oIx (aVar 2) (aC (.int 0))) (aCons (aOp oIx (aVar 2) (aC (.int 1))) (aCons (aOp oIx (aFz (aLst (aCons (aC (.str "w")) (aCons (aC (.str "v")) (aCons (aC (.str "w")) aNil))))) (aFz (aCall ea0 2 sp_law_draw (aConsL (aVar 0) (aCons (aC (.int 3)) aNil))))) aNil)))))))
theorem go_law_exchange {w0 w1 : W} {st : List Cell} {A : Zi.N → List Cell → Prop} {Ea : XA} (h : ab_law_exchange Ea ⟨fun s => A (.w (.d .non)) s.st, A, fun _ => False, fun _ => False⟩ ⟨[.v w0, .v w1, .no], st⟩) : aFn 3 ab_law_exchange [w0, w1] st A Ea := h
def sp_law_exchange : ASp := fun ws st A _ => ∃ (p : Nat) (ss : List Str) (a b c : Int), ws = [.loc p, .d (.lst (ss.map D.str))] ∧ 2 ≤ ss.length ∧ ss.length ≤ 10 ∧ st[p]? = some (Pur a b c) ∧ PurOk a b c ∧ c + 22 ≤ 1000000 ∧
  ∀ (e : Exch) (a' b' c' : Int), e.1 ∈ ss → e.2.1 ∈ ss → PurOk a' b' c' → c ≤ c' → c' ≤ c + 22 → A (.w (.d (exD e))) (st.set p (Pur a' b' c'))
theorem red_law_exchange (ws st A Ea) (_ : ws.length = 2) (h : sp_law_exchange ws st A Ea) : aFn 3 ab_law_exchange ws st A Ea := by
  obtain ⟨p, ss, a, b, c, rfl, l2, l10, hp, hpo, hc, q⟩ := h
  have hpl : p < st.length := (List.getElem?_eq_some_iff.mp hp).1
  refine go_law_exchange ?_
  unfold ab_law_exchange
  walk_at "y"
  refine ⟨p, ss.map D.str, a, b, c, rfl, fun d hd => ?_, by rw [List.length_map]; omega, hp, hpo, by rw [List.length_map]; omega, fun ds' a' b' c' pm po h1 h2 => ?_⟩
  · obtain ⟨s, _, rfl⟩ := List.mem_map.mp hd
    exact okE_str s
  · obtain ⟨us, rfl, pu⟩ := perm_strs pm
    rw [List.length_map] at h2
    have hl : us.length = ss.length := pu.length_eq
    obtain ⟨x, y, rest, rfl⟩ : ∃ x y rest, us = x :: y :: rest := by
      match us, hl with
      | [], hl => simp only [List.length_nil] at hl; omega
      | [_], hl => simp only [List.length_cons, List.length_nil] at hl; omega
      | x :: y :: rest, _ => exact ⟨x, y, rest, rfl⟩
    have mx : x ∈ ss := pu.mem_iff.mp (by simp)
    have my : y ∈ ss := pu.mem_iff.mp (by simp)
    simp only [List.map_cons]
    walk_at "y"
    refine ⟨by decide, p, 3, a', b', c', rfl, by decide, by decide, List.getElem?_set_self hpl, po, by omega, fun r a2 b2 c2 r0 r1 po2 h3 h4 => ?_⟩
    have hr : r = 0 ∨ r = 1 ∨ r = 2 := by omega
    rcases hr with rfl | rfl | rfl
    · walk_at "y"
      exact ⟨by decide, q (x, y, "w") a2 b2 c2 mx my po2 (by omega) (by omega)⟩
    · walk_at "y"
      exact ⟨by decide, q (x, y, "v") a2 b2 c2 mx my po2 (by omega) (by omega)⟩
    · walk_at "y"
      exact ⟨by decide, q (x, y, "w") a2 b2 c2 mx my po2 (by omega) (by omega)⟩
theorem ok_law_exchange (T : Top K mg) : FnOk P w K mg base CX0 4 T.a_law_exchange T.fd_law_exchange ["_law_purse_here", "_law_people"] (SpA 2 sp_law_exchange) := by
  refine T.F_law_exchange.ok sc_law_exchange (fun vs H Q E h => SpA.len h) (fun cdv A outer s H vs Q E hr h => ?_)
  refine ⟨_, (pss_cons (ps_set (i := 2) sc_law_exchange.nd rfl (Or.inl rfl) (pe_slice (sl_listK K rfl) (pe_call (ok_law_order T) (hr.mono (by decide)) (by rfl) T.g_law_order T.F_law_order.kp T.b_law_order .nil pass0 (pa_cons (pv 0) (pa_cons (pv 1) pa_nil))) po_none (po_some pe_int)))
 (pss_one (ps_ret (pe_tup (pa_cons (pe_ix (ix_seqK K rfl) (pv 2) pe_int (fun _ _ => rfl)) (pa_cons (pe_ix (ix_seqK K rfl) (pv 2) pe_int (fun _ _ => rfl)) (pa_cons (pe_ix (ix_seqK K rfl) (pe_lst (pa_cons pe_str (pa_cons pe_str (pa_cons pe_str pa_nil)))) (pe_call (ok_law_draw T) (hr.mono (by decide)) (by rfl) T.g_law_draw T.F_law_draw.kp T.b_law_draw .nil pass0 (pa_cons (pv 0) (pa_cons pe_int pa_nil))) (fun _ _ => rfl)) pa_nil))))))), fn_read (N := ["_law_purse_here", "_law_people", "_law_pair"]) (ab := ab_law_exchange) (fun ea => ?_) red_law_exchange h⟩
  unfold ab_law_exchange
  exact (RS.seq (RS.asg (RN.slL (RE.fz (RN.call0 (asp := sp_law_order) (RA.consL RE.var (RA.cons RE.var RA.nil)))) RO.none (RO.some RE.int)))
 (RS.ret (RN.of (RE.tup (RA.cons (RE.op oIx_ok RE.var RE.int) (RA.cons (RE.op oIx_ok RE.var RE.int) (RA.cons (RE.op oIx_ok (RE.fz (RN.lst (RA.cons RE.str (RA.cons RE.str (RA.cons RE.str RA.nil))))) (RE.fz (RN.call0 (asp := sp_law_draw) (RA.consL RE.var (RA.cons RE.int RA.nil))))) RA.nil)))))))
end
end K06

set_option Elab.async false
set_option linter.all false
set_option maxRecDepth 100000
set_option maxHeartbeats 400000
namespace K06
open PySem PySem.Spec PyProof.Rows L2 Ly Zi Zs Lc
open PySem.W (minD AlikeAll)
local macro_rules | `(tactic| walk_at "z") => `(tactic| simp (config := { dsimp := false }) only [aSeq, aIf, aT, aYes, aAnd, aOr, aNot, aOp, aOpL, aUn, aVar, aC, aRaw, aMove, pk, q_peek_w, q_peek_s, q_peekW_d, q_peekW_loc, q_cellD_lst, q_cellD_dic, ↓q_toW_w, q_toW_w, ↓q_toW_s, q_toW_s, ↓q_toL_w, q_toL_w, ↓q_toL_s, q_toL_s, ↓q_nToW_w, q_nToW_w, ↓q_nToW_lst, q_nToW_lst, ↓q_nToW_dic, q_nToW_dic, q_put_w, q_put_n, q_getC_loc, q_getC_s, q_putC_loc, q_putC_s, aFz, aN, aAsg, aAsgT, q_bind_nm, q_bind_tp, q_binds_nil, q_binds_cons, aRet, aRetN, aDrop, aDropN, aNext, aBreak, aCont, aAug, aSetIx, aDPut, aCall, aCons, aConsL, aNil, aLst, aTup, lstC, wsD, rCons, rNil, pks, aCB, aCBL, aBM, aBM0, isL, mAppend, mPop, mPopAt,
  aSlL, aSlT, aRevL, aNo, aSome, aAndV, aOrV, aNotV, aIfE, aChain, aDIn, aDGet, aDNew, withDic, Zi.keyOf, cut2, part32, eqD_str, inD2, all_str2, aFor, aForE, comesBack, aLc, aSortSet, aPutS, aCl, aIL, aIT, aIR1, aIR2, aIE, aIZ, aIS, wipeE, backE,
  oAdd, oSub, oMul, oMulW, oMod, oDiv, oDivW, oPow, oLt, oLe, oGt, oGe, oI, oIc, oEq, oNe, oIn, oIx, oCat, oAddS, oInS, oIs, oIsNot, oIsB, oIsNB, isNon, oNeg, oBits, bLen, bList, bMax2, bMin2, bMin, aIsi, aSetSl, tyN, kit_NoneType_bool, kit_NoneType_int, kit_NoneType_str, kit_NoneType_list, kit_NoneType_tuple, kit_NoneType_dict, kit_bool_bool, kit_bool_int, kit_bool_str, kit_bool_list, kit_bool_tuple, kit_bool_dict, kit_int_bool, kit_int_int, kit_int_str, kit_int_list, kit_int_tuple, kit_int_dict, kit_str_bool, kit_str_int, kit_str_str, kit_str_list, kit_str_tuple, kit_str_dict, kit_list_bool, kit_list_int, kit_list_str, kit_list_list, kit_list_tuple, kit_list_dict, kit_tuple_bool, kit_tuple_int, kit_tuple_str, kit_tuple_list, kit_tuple_tuple, kit_tuple_dict, kit_dict_bool, kit_dict_int, kit_dict_str, kit_dict_list, kit_dict_tuple, kit_dict_dict, 
  List.getElem?_cons_zero, List.getElem?_cons_succ, List.set_cons_zero, List.set_cons_succ, List.length_cons, List.length_nil, List.set_set, List.getElem?_set_self, Nat.zero_le, okD_nil, okD_str, okD_int, okD_bl, okD_non, ea0, at0, at1, at2, at3, ix0, ix1, ix2, true_and, and_true, Bool.false_eq_true, Bool.not_true, Bool.not_false, ↓reduceIte, *])
local macro_rules | `(tactic| walk_at "y") => `(tactic| simp only [aSeq, aIf, aT, aYes, aAnd, aOr, aNot, aOp, aOpL, aUn, aVar, aC, aRaw, aMove, pk, q_peek_w, q_peek_s, q_peekW_d, q_peekW_loc, q_cellD_lst, q_cellD_dic, ↓q_toW_w, q_toW_w, ↓q_toW_s, q_toW_s, ↓q_toL_w, q_toL_w, ↓q_toL_s, q_toL_s, ↓q_nToW_w, q_nToW_w, ↓q_nToW_lst, q_nToW_lst, ↓q_nToW_dic, q_nToW_dic, q_put_w, q_put_n, q_getC_loc, q_getC_s, q_putC_loc, q_putC_s, aFz, aN, aAsg, aAsgT, q_bind_nm, q_bind_tp, q_binds_nil, q_binds_cons, aRet, aRetN, aDrop, aDropN, aNext, aBreak, aCont, aAug, aSetIx, aDPut, aCall, aCons, aConsL, aNil, aLst, aTup, lstC, wsD, rCons, rNil, pks, aCB, aCBL, aBM, aBM0, isL, mAppend, mPop, mPopAt,
  aSlL, aSlT, aRevL, aNo, aSome, aAndV, aOrV, aNotV, aIfE, aChain, aDIn, aDGet, aDNew, withDic, Zi.keyOf, cut2, part32, eqD_str, inD2, all_str2, aFor, aForE, comesBack, aLc, aSortSet, aPutS, aCl, aIL, aIT, aIR1, aIR2, aIE, aIZ, aIS, wipeE, backE,
  oAdd, oSub, oMul, oMulW, oMod, oDiv, oDivW, oPow, oLt, oLe, oGt, oGe, oI, oIc, oEq, oNe, oIn, oIx, oCat, oAddS, oInS, oIs, oIsNot, oIsB, oIsNB, isNon, oNeg, oBits, bLen, bList, bMax2, bMin2, bMin, aIsi, aSetSl, tyN, kit_NoneType_bool, kit_NoneType_int, kit_NoneType_str, kit_NoneType_list, kit_NoneType_tuple, kit_NoneType_dict, kit_bool_bool, kit_bool_int, kit_bool_str, kit_bool_list, kit_bool_tuple, kit_bool_dict, kit_int_bool, kit_int_int, kit_int_str, kit_int_list, kit_int_tuple, kit_int_dict, kit_str_bool, kit_str_int, kit_str_str, kit_str_list, kit_str_tuple, kit_str_dict, kit_list_bool, kit_list_int, kit_list_str, kit_list_list, kit_list_tuple, kit_list_dict, kit_tuple_bool, kit_tuple_int, kit_tuple_str, kit_tuple_list, kit_tuple_tuple, kit_tuple_dict, kit_dict_bool, kit_dict_int, kit_dict_str, kit_dict_list, kit_dict_tuple, kit_dict_dict, 
  List.getElem?_cons_zero, List.getElem?_cons_succ, List.set_cons_zero, List.set_cons_succ, List.length_cons, List.length_nil, List.set_set, List.getElem?_set_self, Nat.zero_le, okD_nil, okD_str, okD_int, okD_bl, okD_non, ea0, at0, at1, at2, at3, ix0, ix1, ix2, true_and, and_true, Bool.false_eq_true, Bool.not_true, Bool.not_false, ↓reduceIte, *])

section
variable {P : Program} {w : World} {K : PySem.W.Frag} {mg : Str → Option Value} {base : Heap}
def ab_law_earliest : XA → ASt := fun ea =>
 (aSeq (aAsg 1 (aCBL bList (rCons (aVar 0) rNil)))
 (aSeq (aAsg 2 (aLst aNil))
 (aSeq (aWhile (aT (aOp oNe (aVar 1) (aFz (aLst aNil))))
 (aSeq (aAsg 3 (aLst aNil))
 (aSeq (aFor (aIR1 (rCons (aCB bLen (rCons (aVar 1) rNil)) rNil)) (.nm 4)
 (aIf (aT (aOp oEq (aFz (aLc (aIL (aFz (aSlL (aVar 1) aNo (aSome (aVar 4))))) (.nm 7) (aNot (aT (aFz (aCall ea0 2 sp_law_apart (aCons (aVar 7) (aCons (aOp oIx (aVar 1) (aVar 4)) aNil)))))) (aVar 7) [7])) (aFz (aLst aNil))))
 (aDrop (aBM mAppend (aVar 3) (aCons (aTup (aCons (aOp oIx (aVar 1) (aVar 4)) (aCons (aVar 4) aNil))) aNil)))
 aNext))
 (aSeq (aAsgT (.tp [(.nm 5), (.nm 6)]) (aCB bMin (rCons (aVar 3) rNil)))
 (aSeq (aDrop (aBM mAppend (aVar 2) (aCons (aVar 5) aNil)))
 (aDrop (aBM mPopAt (aVar 1) (aCons (aVar 6) aNil))))))))
 (aRet (aMove 2)))))
theorem go_law_earliest {w0 : W} {st : List Cell} {A : Zi.N → List Cell → Prop} {Ea : XA} (h : ab_law_earliest Ea ⟨fun s => A (.w (.d .non)) s.st, A, fun _ => False, fun _ => False⟩ ⟨[.v w0, .no, .no, .no, .no, .no, .no, .no], st⟩) : aFn 8 ab_law_earliest [w0] st A Ea := h
def sp_law_earliest : ASp := fun ws st A _ => ∃ es : List Exch, ws = [.d (.lst (es.map exD))] ∧ es.length ≤ 400 ∧ ∀ o, Greedy es o → A (.new (.lst (o.map exD))) st
theorem range_at {n : Nat} {pre ys : List Nat} {x : Nat} (h : List.range n = pre ++ x :: ys) : x = pre.length ∧ x < n := by
  have e1 : (List.range n)[pre.length]? = some x := by rw [h]; simp
  have hl := (List.getElem?_eq_some_iff.mp e1).1
  rw [List.length_range] at hl
  rw [List.getElem?_range hl] at e1
  cases e1
  exact ⟨rfl, hl⟩
theorem red_law_earliest (ws st A Ea) (_ : ws.length = 1) (h : sp_law_earliest ws st A Ea) : aFn 8 ab_law_earliest ws st A Ea := by
  obtain ⟨es, rfl, hl, q⟩ := h
  refine go_law_earliest ?_
  unfold ab_law_earliest
  walk_at "z"
  refine while_ind (fun m s => ∃ rest found y3 y4 y5 y6, s = ⟨[.v (.d (.lst (es.map exD))), .own (.lst (rest.map exD)), .own (.lst (found.map exD)), y3, y4, y5, y6, .no], st⟩ ∧ m = rest.length ∧ found.length + rest.length = es.length ∧ ∀ o, Greedy rest o → Greedy es (found ++ o)) ?_ es.length _ ⟨es, [], _, _, _, _, rfl, rfl, by simp, fun o h => h⟩
  rintro m s k hk ⟨rest, found, y3, y4, y5, y6, rfl, rfl, hlen, hg⟩
  walk_at "z"
  refine ⟨okD_exs _, ?_⟩
  rw [eqD_nil]
  by_cases hne : rest = []
  · subst hne
    simp only [List.map_nil, List.isEmpty_nil, Bool.not_true, Bool.false_eq_true, if_false]
    have := q found (by have := hg [] .nil; rwa [List.append_nil] at this)
    exact this
  · have hie : (rest.map exD).isEmpty = false := by
      cases rest with
      | nil => exact (hne rfl).elim
      | cons _ _ => rfl
    rw [hie]
    simp only [Bool.not_false, if_true]
    clear hie
    rw [List.length_map]
    have lr : rest.length ≤ 400 := by omega
    refine ⟨⟨by omega, by omega⟩, ?_⟩
    unfold upto
    rw [Int.toNat_natCast]
    refine forGo_ty _ (fun pre ys s => ∃ frees y4 y5 y6, s = ⟨[.v (.d (.lst (es.map exD))), .own (.lst (rest.map exD)), .own (.lst (found.map exD)), .own (.lst (frees.map pairD)), y4, y5, y6, .no], st⟩ ∧
      frees.length ≤ pre.length ∧ ∀ p : Exch × Nat, p ∈ frees ↔ p.2 ∈ pre ∧ FreeAt rest p.2 p.1) _ ?_ ?_ _ ⟨[], _, _, _, rfl, Nat.le_refl _, by simp⟩
    · rintro s ⟨frees, y4, y5, y6, rfl, h2, h4⟩
      have h0 : ∃ e, (e, 0) ∈ frees := by
        obtain ⟨e0, rest0, hr⟩ := List.exists_cons_of_ne_nil hne
        exact ⟨e0, (h4 _).mpr ⟨by rw [hr]; simp, by rw [hr]; exact ⟨rfl, by simp⟩⟩⟩
      obtain ⟨_, h0⟩ := h0
      cases frees with
      | nil => cases h0
      | cons f0 fs =>
        rw [List.map_cons]
        walk_at "z"
        have ok := pairs_ok (ps := f0 :: fs)
        rw [← pyAll_pairs, List.map_cons] at ok
        refine ⟨ok.1, ok.2.1, ok.2.2, fun i z hz hm => ?_⟩
        rw [← List.map_cons] at hz
        obtain ⟨⟨e, ie⟩, hp, rfl⟩ := List.mem_map.mp (List.mem_of_getElem? hz)
        rw [pyAll_pairs] at hm
        have least := pairs_min hm
        have fe := (h4 _).mp hp
        have hpe : pairD (e, ie) = .tup [exD e, .int (ie : Int)] := rfl
        obtain ⟨hil, hie⟩ := List.getElem?_eq_some_iff.mp fe.2.1
        have sj := seqIx (n := (rest.map exD).length) (j := ie) (by rw [List.length_map]; exact hil)
        have gx : (rest.map exD)[ie]? = some (exD e) := by rw [List.getElem?_map, fe.2.1]; rfl
        have er : (rest.map exD).eraseIdx ie = (rest.eraseIdx ie).map exD := map_erase.symm
        have le : (rest.eraseIdx ie).length = rest.length - 1 := List.length_eraseIdx_of_lt hil
        rw [← List.map_cons]
        have least' : ∀ k' e', FreeAt rest k' e' → lt e' e = false := fun k' e' f => least (e', k') ((h4 _).mpr ⟨List.mem_range.mpr (List.getElem?_eq_some_iff.mp f.1).1, f⟩)
        clear least
        walk_at "z"
        refine ⟨by rw [List.length_map]; show found.length < 16777216; omega, by omega, by omega, hk _ _ (by omega) ⟨rest.eraseIdx ie, found ++ [e], _, _, _, _, by rw [List.map_append]; rfl, rfl, by rw [List.length_append, List.length_singleton]; omega, fun o g => ?_⟩⟩
        rw [List.append_assoc]
        exact hg _ (.cons fe.2 least' g)
    · rintro pre x ys s k' e1 hk' ⟨frees, y4, y5, y6, rfl, h2, h4⟩
      obtain ⟨hx, hxl⟩ := range_at e1
      have hpl : pre.length < rest.length := by omega
      clear hx
      clear e1
      obtain ⟨e, he⟩ : ∃ e, rest[x]? = some e := ⟨_, List.getElem?_eq_getElem hxl⟩
      have ix : atI (rest.map exD) (x : Int) = some (exD e) := atI_nat (by rw [List.getElem?_map, he]; rfl)
      have ct : cutZ (rest.map exD) none (some (x : Int)) = (rest.take x).map exD := by rw [cut_to, List.map_take]
      simp only [Int.zero_add]
      walk_at "z"
      unfold lcG
      refine lcGo_ty exD (fun y => !apart y e) exD (rest.take x) (by rw [List.length_take]; omega) (fun y _ => ⟨_, rfl, rfl, fun A hA => ?_, fun _ A hA => ?_⟩) ?_
      · simp only [List.set_cons_succ, List.set_cons_zero] at hA ⊢
        walk_at "z"
        refine ⟨y, e, rfl, ?_⟩
        walk_at "z"
      · exact hA
      · walk_at "z"
        refine ⟨okD_exs _, ?_⟩
        rw [eqD_nil]
        have big : (10000 : Nat) < sizeLine := by decide
        by_cases fr : ∀ y ∈ rest.take x, apart y e = true
        · have em : List.filter (fun y => !apart y e) (rest.take x) = [] := List.filter_eq_nil_iff.mpr fun y hy => by rw [fr y hy]; decide
          rw [em]
          simp only [List.map_nil, List.isEmpty_nil, if_true]
          refine ⟨by decide, by rw [List.length_map]; omega, hk' _ ⟨frees ++ [(e, x)], _, _, _, by rw [List.map_append]; rfl, by simp only [List.length_append, List.length_singleton]; omega, fun p => ?_⟩⟩
          rw [List.mem_append, List.mem_append, List.mem_singleton, List.mem_singleton, h4]
          constructor
          · rintro (⟨a, b⟩ | rfl)
            · exact ⟨.inl a, b⟩
            · exact ⟨.inr rfl, he, fr⟩
          · rintro ⟨a | a, b⟩
            · exact .inl ⟨a, b⟩
            · refine .inr ?_
              have := b.1
              rw [a, he] at this
              obtain ⟨p1, p2⟩ := p
              cases this
              cases a
              rfl
        · have em : (List.map exD (List.filter (fun y => !apart y e) (rest.take x))).isEmpty = false := by
            cases z : List.filter (fun y => !apart y e) (rest.take x) with
            | nil =>
              refine (fr fun y hy => ?_).elim
              have := List.filter_eq_nil_iff.mp z y hy
              simpa using this
            | cons _ _ => rfl
          rw [em]
          simp only [Bool.false_eq_true, if_false]
          refine hk' _ ⟨frees, _, _, _, rfl, by simp only [List.length_append, List.length_singleton]; omega, fun p => ?_⟩
          rw [h4, List.mem_append, List.mem_singleton]
          constructor
          · rintro ⟨a, b⟩; exact ⟨.inl a, b⟩
          · rintro ⟨a | a, b⟩
            · exact ⟨a, b⟩
            · have := b.1
              rw [a, he] at this
              cases this
              rw [a] at b
              exact (fr b.2).elim
theorem ok_law_earliest (T : Top K mg) : FnOk P w K mg base CX0 2 T.a_law_earliest T.fd_law_earliest ["_law_history"] (SpA 1 sp_law_earliest) := by
  refine T.F_law_earliest.ok sc_law_earliest (fun vs H Q E h => SpA.len h) (fun cdv A outer s H vs Q E hr h => ?_)
  refine ⟨_, (pss_cons (ps_set (i := 1) sc_law_earliest.nd rfl (Or.inr rfl) (pe_callTy (call_listK K rfl) (by rfl) T.z_list (by decide +kernel) (pa_cons (pv 0) pa_nil)))
 (pss_cons (ps_set (i := 2) sc_law_earliest.nd rfl (Or.inl rfl) (pe_lst pa_nil))
 (pss_cons (ps_while PassesOwn.never (pt_cmpR (op_neQ hr.units) (pv 1) (pe_lst pa_nil) (nomark _)) (pss_cons (ps_set (i := 3) sc_law_earliest.nd rfl (Or.inl rfl) (pe_lst pa_nil))
 (pss_cons (ps_for PassesOwn.never rfl (pi_range1 rfl T.z_range (pa_cons (pe_callB (call_lenK K rfl) (by rfl) T.z_len (by decide +kernel) (pa_cons (pv 1) pa_nil)) pa_nil)) (pg_name (i := 4) sc_law_earliest.nd rfl (Or.inr rfl)) (pss_one (ps_if (pt_cmpR (op_eqQ hr.units) (pe_lc (own := [("_law_exchange_here", 7)]) (g := gName 7) (tt := _) rfl sc_law_earliest.nd (pi_listK K rfl (pe_slice (sl_listK K rfl) (pv 1) po_none (po_some (pv 4)))) (blkOk_by (own := [("_law_exchange_here", 7)]) (N := ["_law_history", "_law_rest", "_law_found", "_law_free", "_law_k", "_law_best", "_law_at_here", "_law_exchange_here"]) (sc := defScope s_law_earliest) (by decide +kernel)) (fun _ _ _ _ _ => (pg_name (i := 7) sc_law_earliest.nd rfl (Or.inl rfl))) (fun _ _ _ _ _ => pts_one (pt_not (pt_val (pe_call (ok_law_apart T) (hr.mono (by decide)) (by rfl) T.g_law_apart T.F_law_apart.kp T.b_law_apart .nil pass0 (pa_cons (pv 7) (pa_cons (pe_ix (ix_seqK K rfl) (pv 1) (pv 4) (fun _ _ => rfl)) pa_nil)))))) (fun _ _ _ _ _ => (pv 7))) (pe_lst pa_nil) (nomark _)) (pss_one (ps_expr (bmK K rfl (pe_bm PySem.F.plainAttrs_list PySem.F.slot_list_append PySem.F.type_list_append mt_append (pv 3) (pa_cons (pe_tup (pa_cons (pe_ix (ix_seqK K rfl) (pv 1) (pv 4) (fun _ _ => rfl)) (pa_cons (pv 4) pa_nil))) pa_nil))))) pss_nil)))
 (pss_cons (ps_asg (pe_callB (cr_minD rfl hr.units) (by rfl) T.z_min (by decide +kernel) (pa_cons (pv 3) pa_nil)) (pg_tup (by rfl) (pgs_cons (pg_name (i := 5) sc_law_earliest.nd rfl (Or.inl rfl)) (pgs_cons (pg_name (i := 6) sc_law_earliest.nd rfl (Or.inl rfl)) pgs_nil))))
 (pss_cons (ps_expr (bmK K rfl (pe_bm PySem.F.plainAttrs_list PySem.F.slot_list_append PySem.F.type_list_append mt_append (pv 2) (pa_cons (pv 5) pa_nil))))
 (pss_one (ps_expr (bmK K rfl (pe_bm PySem.F.plainAttrs_list PySem.F.slot_list_pop PySem.F.type_list_pop mt_popAt (pv 1) (pa_cons (pv 6) pa_nil))))))))))
 (pss_one (ps_ret (pv 2)))))), fn_read (N := ["_law_history", "_law_rest", "_law_found", "_law_free", "_law_k", "_law_best", "_law_at_here", "_law_exchange_here"]) (ab := ab_law_earliest) (fun ea => ?_) red_law_earliest h⟩
  unfold ab_law_earliest
  exact (RS.seq (RS.asg (RN.cb bList_ok (RR.cons RE.var RR.nil)))
 (RS.seq (RS.asg (RN.lst RA.nil))
 (RS.seq (RS.while (RT.test (RE.op oNe_ok RE.var (RE.fz (RN.lst RA.nil))))
 (RS.seq (RS.asg (RN.lst RA.nil))
 (RS.seq (RS.for (RI.rng1 (RR.cons (RE.cb bLen_ok (RR.cons RE.var RR.nil)) RR.nil)) RG.nm
 (RS.ifs (RT.test (RE.op oEq_ok (RE.fz (RN.lc (RI.list (RE.fz (RN.slL RE.var RO.none (RO.some RE.var)))) RG.nm (RT.not (RT.b (RE.fz (RN.call0 (asp := sp_law_apart) (RA.cons RE.var (RA.cons (RE.op oIx_ok RE.var RE.var) RA.nil)))))) RE.var (by decide))) (RE.fz (RN.lst RA.nil))))
 (RS.drop (RE.bm mAppend_ok RE.var (RA.cons (RE.tup (RA.cons (RE.op oIx_ok RE.var RE.var) (RA.cons RE.var RA.nil))) RA.nil)))
 RS.next))
 (RS.seq (RS.asgT (RE.cb bMin_ok (RR.cons RE.var RR.nil)) (RG.tp (RGs.cons RG.nm (RGs.cons RG.nm RGs.nil)) rfl))
 (RS.seq (RS.drop (RE.bm mAppend_ok RE.var (RA.cons RE.var RA.nil)))
 (RS.drop (RE.bm mPopAt_ok RE.var (RA.cons RE.var RA.nil))))))))
 (RS.ret RN.move))))
end
end K06

set_option Elab.async false
set_option linter.all false
set_option maxRecDepth 100000
set_option maxHeartbeats 400000
namespace K06
open PySem PySem.Spec PyProof.Rows L2 Ly Zi Zs Lc
open PySem.W (minD AlikeAll)
local macro_rules | `(tactic| walk_at "z") => `(tactic| simp (config := { dsimp := false }) only [aSeq, aIf, aT, aYes, aAnd, aOr, aNot, aOp, aOpL, aUn, aVar, aC, aRaw, aMove, pk, q_peek_w, q_peek_s, q_peekW_d, q_peekW_loc, q_cellD_lst, q_cellD_dic, ↓q_toW_w, q_toW_w, ↓q_toW_s, q_toW_s, ↓q_toL_w, q_toL_w, ↓q_toL_s, q_toL_s, ↓q_nToW_w, q_nToW_w, ↓q_nToW_lst, q_nToW_lst, ↓q_nToW_dic, q_nToW_dic, q_put_w, q_put_n, q_getC_loc, q_getC_s, q_putC_loc, q_putC_s, aFz, aN, aAsg, aAsgT, q_bind_nm, q_bind_tp, q_binds_nil, q_binds_cons, aRet, aRetN, aDrop, aDropN, aNext, aBreak, aCont, aAug, aSetIx, aDPut, aCall, aCons, aConsL, aNil, aLst, aTup, lstC, wsD, rCons, rNil, pks, aCB, aCBL, aBM, aBM0, isL, mAppend, mPop, mPopAt,
  aSlL, aSlT, aRevL, aNo, aSome, aAndV, aOrV, aNotV, aIfE, aChain, aDIn, aDGet, aDNew, withDic, Zi.keyOf, cut2, part32, eqD_str, inD2, all_str2, aFor, aForE, comesBack, aLc, aSortSet, aPutS, aCl, aIL, aIT, aIR1, aIR2, aIE, aIZ, aIS, wipeE, backE,
  oAdd, oSub, oMul, oMulW, oMod, oDiv, oDivW, oPow, oLt, oLe, oGt, oGe, oI, oIc, oEq, oNe, oIn, oIx, oCat, oAddS, oInS, oIs, oIsNot, oIsB, oIsNB, isNon, oNeg, oBits, bLen, bList, bMax2, bMin2, bMin, aIsi, aSetSl, tyN, kit_NoneType_bool, kit_NoneType_int, kit_NoneType_str, kit_NoneType_list, kit_NoneType_tuple, kit_NoneType_dict, kit_bool_bool, kit_bool_int, kit_bool_str, kit_bool_list, kit_bool_tuple, kit_bool_dict, kit_int_bool, kit_int_int, kit_int_str, kit_int_list, kit_int_tuple, kit_int_dict, kit_str_bool, kit_str_int, kit_str_str, kit_str_list, kit_str_tuple, kit_str_dict, kit_list_bool, kit_list_int, kit_list_str, kit_list_list, kit_list_tuple, kit_list_dict, kit_tuple_bool, kit_tuple_int, kit_tuple_str, kit_tuple_list, kit_tuple_tuple, kit_tuple_dict, kit_dict_bool, kit_dict_int, kit_dict_str, kit_dict_list, kit_dict_tuple, kit_dict_dict, 
  List.getElem?_cons_zero, List.getElem?_cons_succ, List.set_cons_zero, List.set_cons_succ, List.length_cons, List.length_nil, List.set_set, List.getElem?_set_self, Nat.zero_le, okD_nil, okD_str, okD_int, okD_bl, okD_non, ea0, at0, at1, at2, at3, ix0, ix1, ix2, true_and, and_true, Bool.false_eq_true, Bool.not_true, Bool.not_false, ↓reduceIte, *])
local macro_rules | `(tactic| walk_at "y") => `(tactic| simp only [aSeq, aIf, aT, aYes, aAnd, aOr, aNot, aOp, aOpL, aUn, aVar, aC, aRaw, aMove, pk, q_peek_w, q_peek_s, q_peekW_d, q_peekW_loc, q_cellD_lst, q_cellD_dic, ↓q_toW_w, q_toW_w, ↓q_toW_s, q_toW_s, ↓q_toL_w, q_toL_w, ↓q_toL_s, q_toL_s, ↓q_nToW_w, q_nToW_w, ↓q_nToW_lst, q_nToW_lst, ↓q_nToW_dic, q_nToW_dic, q_put_w, q_put_n, q_getC_loc, q_getC_s, q_putC_loc, q_putC_s, aFz, aN, aAsg, aAsgT, q_bind_nm, q_bind_tp, q_binds_nil, q_binds_cons, aRet, aRetN, aDrop, aDropN, aNext, aBreak, aCont, aAug, aSetIx, aDPut, aCall, aCons, aConsL, aNil, aLst, aTup, lstC, wsD, rCons, rNil, pks, aCB, aCBL, aBM, aBM0, isL, mAppend, mPop, mPopAt,
  aSlL, aSlT, aRevL, aNo, aSome, aAndV, aOrV, aNotV, aIfE, aChain, aDIn, aDGet, aDNew, withDic, Zi.keyOf, cut2, part32, eqD_str, inD2, all_str2, aFor, aForE, comesBack, aLc, aSortSet, aPutS, aCl, aIL, aIT, aIR1, aIR2, aIE, aIZ, aIS, wipeE, backE,
  oAdd, oSub, oMul, oMulW, oMod, oDiv, oDivW, oPow, oLt, oLe, oGt, oGe, oI, oIc, oEq, oNe, oIn, oIx, oCat, oAddS, oInS, oIs, oIsNot, oIsB, oIsNB, isNon, oNeg, oBits, bLen, bList, bMax2, bMin2, bMin, aIsi, aSetSl, tyN, kit_NoneType_bool, kit_NoneType_int, kit_NoneType_str, kit_NoneType_list, kit_NoneType_tuple, kit_NoneType_dict, kit_bool_bool, kit_bool_int, kit_bool_str, kit_bool_list, kit_bool_tuple, kit_bool_dict, kit_int_bool, kit_int_int, kit_int_str, kit_int_list, kit_int_tuple, kit_int_dict, kit_str_bool, kit_str_int, kit_str_str, kit_str_list, kit_str_tuple, kit_str_dict, kit_list_bool, kit_list_int, kit_list_str, kit_list_list, kit_list_tuple, kit_list_dict, kit_tuple_bool, kit_tuple_int, kit_tuple_str, kit_tuple_list, kit_tuple_tuple, kit_tuple_dict, kit_dict_bool, kit_dict_int, kit_dict_str, kit_dict_list, kit_dict_tuple, kit_dict_dict, 
  List.getElem?_cons_zero, List.getElem?_cons_succ, List.set_cons_zero, List.set_cons_succ, List.length_cons, List.length_nil, List.set_set, List.getElem?_set_self, Nat.zero_le, okD_nil, okD_str, okD_int, okD_bl, okD_non, ea0, at0, at1, at2, at3, ix0, ix1, ix2, true_and, and_true, Bool.false_eq_true, Bool.not_true, Bool.not_false, ↓reduceIte, *])

section
variable {P : Program} {w : World} {K : PySem.W.Frag} {mg : Str → Option Value} {base : Heap}
def ab_law_swapped : XA → ASt := fun ea =>
 (aSeq (aAsg 2 (aCBL bList (rCons (aVar 1) rNil)))
 (aSeq (aFor (aIR1 (rCons (aOp oMul (aC (.int 2)) (aCB bLen (rCons (aVar 2) rNil))) rNil)) (.nm 3)
 (aSeq (aAsg 4 (aCall ea0 2 sp_law_draw (aConsL (aVar 0) (aCons (aCB bLen (rCons (aVar 2) rNil)) aNil))))
 (aSeq (aAsg 5 (aN (aSlT (aOp oIx (aVar 2) (aCB bMax2 (rCons (aOp oSub (aVar 4) (aC (.int 1))) (rCons (aC (.int 0)) rNil)))) aNo (aSome (aC (.int 2))))))
 (aIf (aAnd (aT (aOp oGt (aVar 4) (aC (.int 0)))) (aT (aOp oEq (aFz (aLc (aIT (aSlT (aOp oIx (aVar 2) (aVar 4)) aNo (aSome (aC (.int 2))))) (.nm 6) (aT (aOp (oIn false) (aVar 6) (aVar 5))) (aVar 6) [6])) (aFz (aLst aNil)))))
 (aSetSl (aFz (aLst (aCons (aOp oIx (aVar 2) (aVar 4)) (aCons (aOp oIx (aVar 2) (aOp oSub (aVar 4) (aC (.int 1)))) aNil)))) (aVar 2) (aOp oSub (aVar 4) (aC (.int 1))) (aOp oAdd (aVar 4) (aC (.int 1))))
 aNext))))
 (aRet (aMove 2))))
theorem go_law_swapped {w0 w1 : W} {st : List Cell} {A : Zi.N → List Cell → Prop} {Ea : XA} (h : ab_law_swapped Ea ⟨fun s => A (.w (.d .non)) s.st, A, fun _ => False, fun _ => False⟩ ⟨[.v w0, .v w1, .no, .no, .no, .no, .no], st⟩) : aFn 7 ab_law_swapped [w0, w1] st A Ea := h
def sp_law_swapped : ASp := fun ws st A _ => ∃ (p : Nat) (es : List Exch) (a b c : Int), ws = [.loc p, .d (.lst (es.map exD))] ∧ es.length ≤ 20 ∧ st[p]? = some (Pur a b c) ∧ PurOk a b c ∧ c + 100 ≤ 1000000 ∧
  ∀ (L : List Exch) (a' b' c' : Int), L.length = es.length → (∀ e ∈ L, e ∈ es) → PurOk a' b' c' → c ≤ c' → c' ≤ c + 100 → A (.new (.lst (L.map exD))) (st.set p (Pur a' b' c'))
theorem red_law_swapped (ws st A Ea) (_ : ws.length = 2) (h : sp_law_swapped ws st A Ea) : aFn 7 ab_law_swapped ws st A Ea := by
  obtain ⟨p, es, a, b, c, rfl, hl, hp, hpo, hc, q⟩ := h
  have hpl : p < st.length := (List.getElem?_eq_some_iff.mp hp).1
  refine go_law_swapped ?_
  unfold ab_law_swapped
  walk_at "z"
  rw [List.length_map]
  refine ⟨.inl ⟨by decide, by decide⟩, ⟨by omega, by omega⟩, ?_⟩
  unfold upto
  rw [show (2 * (es.length : Int)).toNat = 2 * es.length by omega]
  refine forGo_ty _ (fun pre ys s => ∃ L y3 y4 y5 a' b' c', s = ⟨[.v (.loc p), .v (.d (.lst (es.map exD))), .own (.lst (L.map exD)), y3, y4, y5, .no], st.set p (Pur a' b' c')⟩ ∧ L.length = es.length ∧ (∀ e ∈ L, e ∈ es) ∧ PurOk a' b' c' ∧ c ≤ c' ∧ c' ≤ c + 2 * pre.length ∧ pre.length + ys.length = 2 * es.length) _ ?_ ?_ _
    ⟨es, _, _, _, a, b, c, by rw [set_same hp], rfl, fun _ h => h, hpo, Int.le_refl _, by simp, by simp⟩
  · rintro s ⟨L, y3, y4, y5, a', b', c', rfl, h1, h2, h3, h4, h5, h6⟩
    walk_at "z"
    simp only [List.length_nil] at h6
    exact q L a' b' c' h1 h2 h3 h4 (by omega)
  · rintro pre x ys s k e1 hk ⟨L, y3, y4, y5, a', b', c', rfl, h1, h2, h3, h4, h5, h6⟩
    clear e1
    simp only [List.length_cons] at h6
    have hL : 1 ≤ L.length := by omega
    walk_at "z"
    rw [List.length_map]
    refine ⟨p, _, _, _, _, rfl, by omega, by omega, List.getElem?_set_self hpl, h3, by omega, fun r a2 b2 c2 r0 r1 po2 h7 h8 => ?_⟩
    obtain ⟨j, rfl⟩ := Int.eq_ofNat_of_zero_le r0
    have hj : j < L.length := by omega
    obtain ⟨e, he⟩ : ∃ e, L[j]? = some e := ⟨_, List.getElem?_eq_getElem hj⟩
    have ie : atI (L.map exD) (j : Int) = some (exD e) := atI_nat (by rw [List.getElem?_map, he]; rfl)
    obtain ⟨f, hf⟩ : ∃ f, L[j - 1]? = some f := ⟨_, List.getElem?_eq_getElem (by omega)⟩
    have jf : atI (L.map exD) (if (0 : Int) > (j : Int) - 1 then 0 else (j : Int) - 1) = some (exD f) := by
      have : (if (0 : Int) > (j : Int) - 1 then 0 else (j : Int) - 1) = ((j - 1 : Nat) : Int) := by split <;> omega
      rw [this]
      exact atI_nat (by rw [List.getElem?_map, hf]; rfl)
    have xe : exD e = .tup [.str e.1, .str e.2.1, .str e.2.2] := rfl
    have xf : exD f = .tup [.str f.1, .str f.2.1, .str f.2.2] := rfl
    have hkk : ∀ (L' : List Exch) y3 y4 y5, L'.length = es.length → (∀ e ∈ L', e ∈ es) → k ⟨[.v (.loc p), .v (.d (.lst (es.map exD))), .own (.lst (L'.map exD)), y3, y4, y5, .no], st.set p (Pur a2 b2 c2)⟩ :=
      fun L' y3 y4 y5 l1 l2 => hk _ ⟨L', y3, y4, y5, a2, b2, c2, rfl, l1, l2, po2, by omega, by simp only [List.length_append, List.length_singleton]; omega, by simp only [List.length_append, List.length_singleton]; omega⟩
    clear hk
    walk_at "z"
    by_cases hj : 0 < j
    · rw [if_pos (by simpa using hj)]
      unfold lcG
      refine lcGo_ty D.str (fun y => f.1 == y || f.2.1 == y) D.str [e.1, e.2.1] (by simp) (fun y _ => ⟨_, rfl, rfl, fun A hA => ?_, fun _ A hA => ?_⟩) ?_
      · simp only [List.set_cons_succ, List.set_cons_zero] at hA ⊢
        walk_at "z"
        all_goals exact hA
      · simp only [List.set_cons_succ, List.set_cons_zero] at hA ⊢
        walk_at "z"
      · have jm : atI (L.map exD) ((j : Int) - 1) = some (exD f) := by
          rw [show (j : Int) - 1 = ((j - 1 : Nat) : Int) by omega]
          exact atI_nat (by rw [List.getElem?_map, hf]; rfl)
        have big : (100 : Nat) < sizeLine := by decide
        have t1 : ((j : Int) - 1).toNat = j - 1 := by omega
        have t2 : ((j : Int) + 1).toNat = j + 1 := by omega
        walk_at "z"
        refine ⟨okD_lst (fun z hz => ?_), ?_⟩
        · obtain ⟨t, _, rfl⟩ := List.mem_map.mp hz
          exact okE_str t
        · rw [List.length_map]
          split
          · refine ⟨by omega, by omega, by omega, by omega, by omega, ?_⟩
            have := hkk (L.take (j - 1) ++ [e, f] ++ L.drop (j + 1)) (.v (.d (.int (0 + (x : Int))))) (.v (.d (.int (j : Int)))) (.v (.d (.tup [.str f.1, .str f.2.1]))) (by simp only [List.length_append, List.length_take, List.length_drop, List.length_cons, List.length_nil]; omega) (fun z hz => ?_)
            · simp only [List.map_append, List.map_take, List.map_drop, List.map_cons, List.map_nil] at this
              exact this
            · simp only [List.mem_append, List.mem_cons, List.not_mem_nil, or_false] at hz
              rcases hz with (hz | rfl | rfl) | hz
              · exact h2 _ (List.mem_of_mem_take hz)
              · exact h2 _ (List.mem_of_getElem? he)
              · exact h2 _ (List.mem_of_getElem? hf)
              · exact h2 _ (List.mem_of_mem_drop hz)
          · exact hkk _ _ _ _ h1 h2
    · rw [if_neg (by simpa using hj)]
      exact hkk _ _ _ _ h1 h2
theorem ok_law_swapped (T : Top K mg) : FnOk P w K mg base CX0 3 T.a_law_swapped T.fd_law_swapped ["_law_purse_here", "_law_history"] (SpA 2 sp_law_swapped) := by
  refine T.F_law_swapped.ok sc_law_swapped (fun vs H Q E h => SpA.len h) (fun cdv A outer s H vs Q E hr h => ?_)
  refine ⟨_, (pss_cons (ps_set (i := 2) sc_law_swapped.nd rfl (Or.inl rfl) (pe_callTy (call_listK K rfl) (by rfl) T.z_list (by decide +kernel) (pa_cons (pv 1) pa_nil)))
 (pss_cons (ps_for PassesOwn.never rfl (pi_range1 rfl T.z_range (pa_cons (pe_op op_mul pe_int (pe_callB (call_lenK K rfl) (by rfl) T.z_len (by decide +kernel) (pa_cons (pv 2) pa_nil))) pa_nil)) (pg_name (i := 3) sc_law_swapped.nd rfl (Or.inl rfl)) (pss_cons (ps_set (i := 4) sc_law_swapped.nd rfl (Or.inl rfl) (pe_call (ok_law_draw T) (hr.mono (by decide)) (by rfl) T.g_law_draw T.F_law_draw.kp T.b_law_draw .nil pass0 (pa_cons (pv 0) (pa_cons (pe_callB (call_lenK K rfl) (by rfl) T.z_len (by decide +kernel) (pa_cons (pv 2) pa_nil)) pa_nil))))
 (pss_cons (ps_set (i := 5) sc_law_swapped.nd rfl (Or.inr rfl) (pe_slice (sl_tupK K rfl) (pe_ix (ix_seqK K rfl) (pv 2) (pe_callB (call_max2 rfl) (by rfl) T.z_max (by decide +kernel) (pa_cons (pe_op op_sub (pv 4) pe_int) (pa_cons pe_int pa_nil))) (fun _ _ => rfl)) po_none (po_some pe_int)))
 (pss_one (ps_if (PW.pt (pw_and (pt_cmpR op_gt (pv 4) pe_int (nomark _)) (pw_and1 (pt_cmpR (op_eqQ hr.units) (pe_lc (own := [("_law_name", 6)]) (g := gName 6) (tt := _) rfl sc_law_swapped.nd (pi_tupK K rfl (pe_slice (sl_tupK K rfl) (pe_ix (ix_seqK K rfl) (pv 2) (pv 4) (fun _ _ => rfl)) po_none (po_some pe_int))) (blkOk_by (own := [("_law_name", 6)]) (N := ["_law_purse_here", "_law_history", "_law_found", "_law_turn", "_law_k", "_law_near", "_law_name"]) (sc := defScope s_law_swapped) (by decide +kernel)) (fun _ _ _ _ _ => (pg_name (i := 6) sc_law_swapped.nd rfl (Or.inl rfl))) (fun _ _ _ _ _ => pts_one (pt_cmpR (op_inQ hr.units) (pv 6) (pv 5) (by rfl))) (fun _ _ _ _ _ => (pv 6))) (pe_lst pa_nil) (nomark _))))) (pss_one (ps_asg (pe_lst (pa_cons (pe_ix (ix_seqK K rfl) (pv 2) (pv 4) (fun _ _ => rfl)) (pa_cons (pe_ix (ix_seqK K rfl) (pv 2) (pe_op op_sub (pv 4) pe_int) (fun _ _ => rfl)) pa_nil))) (pg_slc (pv 2) (pe_op op_sub (pv 4) pe_int) (pe_op op_add (pv 4) pe_int)))) pss_nil)))))
 (pss_one (ps_ret (pv 2))))), fn_read (N := ["_law_purse_here", "_law_history", "_law_found", "_law_turn", "_law_k", "_law_near", "_law_name"]) (ab := ab_law_swapped) (fun ea => ?_) red_law_swapped h⟩
  unfold ab_law_swapped
  exact (RS.seq (RS.asg (RN.cb bList_ok (RR.cons RE.var RR.nil)))
 (RS.seq (RS.for (RI.rng1 (RR.cons (RE.op oMul_ok RE.int (RE.cb bLen_ok (RR.cons RE.var RR.nil))) RR.nil)) RG.nm
 (RS.seq (RS.asg (RN.call0 (asp := sp_law_draw) (RA.consL RE.var (RA.cons (RE.cb bLen_ok (RR.cons RE.var RR.nil)) RA.nil))))
 (RS.seq (RS.asg (RN.of (RE.slT (RE.op oIx_ok RE.var (RE.cb bMax2_ok (RR.cons (RE.op oSub_ok RE.var RE.int) (RR.cons RE.int RR.nil)))) RO.none (RO.some RE.int))))
 (RS.ifs (RT.and (RT.test (RE.op oGt_ok RE.var RE.int)) (RT.test (RE.op oEq_ok (RE.fz (RN.lc (RI.tup (RE.slT (RE.op oIx_ok RE.var RE.var) RO.none (RO.some RE.int))) RG.nm (RT.test (RE.op oIn_ok RE.var RE.var)) RE.var (by decide))) (RE.fz (RN.lst RA.nil)))))
 (RS.setSl (RE.fz (RN.lst (RA.cons (RE.op oIx_ok RE.var RE.var) (RA.cons (RE.op oIx_ok RE.var (RE.op oSub_ok RE.var RE.int)) RA.nil)))) RE.var (RE.op oSub_ok RE.var RE.int) (RE.op oAdd_ok RE.var RE.int))
 RS.next))))
 (RS.ret RN.move)))
end
end K06

set_option Elab.async false
set_option linter.all false
set_option maxRecDepth 100000
set_option maxHeartbeats 400000
namespace K06
open PySem PySem.Spec PyProof.Rows L2 Ly Zi Zs Lc
open PySem.W (minD AlikeAll)
local macro_rules | `(tactic| walk_at "z") => `(tactic| simp (config := { dsimp := false }) only [aSeq, aIf, aT, aYes, aAnd, aOr, aNot, aOp, aOpL, aUn, aVar, aC, aRaw, aMove, pk, q_peek_w, q_peek_s, q_peekW_d, q_peekW_loc, q_cellD_lst, q_cellD_dic, ↓q_toW_w, q_toW_w, ↓q_toW_s, q_toW_s, ↓q_toL_w, q_toL_w, ↓q_toL_s, q_toL_s, ↓q_nToW_w, q_nToW_w, ↓q_nToW_lst, q_nToW_lst, ↓q_nToW_dic, q_nToW_dic, q_put_w, q_put_n, q_getC_loc, q_getC_s, q_putC_loc, q_putC_s, aFz, aN, aAsg, aAsgT, q_bind_nm, q_bind_tp, q_binds_nil, q_binds_cons, aRet, aRetN, aDrop, aDropN, aNext, aBreak, aCont, aAug, aSetIx, aDPut, aCall, aCons, aConsL, aNil, aLst, aTup, lstC, wsD, rCons, rNil, pks, aCB, aCBL, aBM, aBM0, isL, mAppend, mPop, mPopAt,
  aSlL, aSlT, aRevL, aNo, aSome, aAndV, aOrV, aNotV, aIfE, aChain, aDIn, aDGet, aDNew, withDic, Zi.keyOf, cut2, part32, eqD_str, inD2, all_str2, aFor, aForE, comesBack, aLc, aSortSet, aPutS, aCl, aIL, aIT, aIR1, aIR2, aIE, aIZ, aIS, wipeE, backE,
  oAdd, oSub, oMul, oMulW, oMod, oDiv, oDivW, oPow, oLt, oLe, oGt, oGe, oI, oIc, oEq, oNe, oIn, oIx, oCat, oAddS, oInS, oIs, oIsNot, oIsB, oIsNB, isNon, oNeg, oBits, bLen, bList, bMax2, bMin2, bMin, aIsi, aSetSl, tyN, kit_NoneType_bool, kit_NoneType_int, kit_NoneType_str, kit_NoneType_list, kit_NoneType_tuple, kit_NoneType_dict, kit_bool_bool, kit_bool_int, kit_bool_str, kit_bool_list, kit_bool_tuple, kit_bool_dict, kit_int_bool, kit_int_int, kit_int_str, kit_int_list, kit_int_tuple, kit_int_dict, kit_str_bool, kit_str_int, kit_str_str, kit_str_list, kit_str_tuple, kit_str_dict, kit_list_bool, kit_list_int, kit_list_str, kit_list_list, kit_list_tuple, kit_list_dict, kit_tuple_bool, kit_tuple_int, kit_tuple_str, kit_tuple_list, kit_tuple_tuple, kit_tuple_dict, kit_dict_bool, kit_dict_int, kit_dict_str, kit_dict_list, kit_dict_tuple, kit_dict_dict, 
  List.getElem?_cons_zero, List.getElem?_cons_succ, List.set_cons_zero, List.set_cons_succ, List.length_cons, List.length_nil, List.set_set, List.getElem?_set_self, Nat.zero_le, okD_nil, okD_str, okD_int, okD_bl, okD_non, ea0, at0, at1, at2, at3, ix0, ix1, ix2, true_and, and_true, Bool.false_eq_true, Bool.not_true, Bool.not_false, ↓reduceIte, *])
local macro_rules | `(tactic| walk_at "y") => `(tactic| simp only [aSeq, aIf, aT, aYes, aAnd, aOr, aNot, aOp, aOpL, aUn, aVar, aC, aRaw, aMove, pk, q_peek_w, q_peek_s, q_peekW_d, q_peekW_loc, q_cellD_lst, q_cellD_dic, ↓q_toW_w, q_toW_w, ↓q_toW_s, q_toW_s, ↓q_toL_w, q_toL_w, ↓q_toL_s, q_toL_s, ↓q_nToW_w, q_nToW_w, ↓q_nToW_lst, q_nToW_lst, ↓q_nToW_dic, q_nToW_dic, q_put_w, q_put_n, q_getC_loc, q_getC_s, q_putC_loc, q_putC_s, aFz, aN, aAsg, aAsgT, q_bind_nm, q_bind_tp, q_binds_nil, q_binds_cons, aRet, aRetN, aDrop, aDropN, aNext, aBreak, aCont, aAug, aSetIx, aDPut, aCall, aCons, aConsL, aNil, aLst, aTup, lstC, wsD, rCons, rNil, pks, aCB, aCBL, aBM, aBM0, isL, mAppend, mPop, mPopAt,
  aSlL, aSlT, aRevL, aNo, aSome, aAndV, aOrV, aNotV, aIfE, aChain, aDIn, aDGet, aDNew, withDic, Zi.keyOf, cut2, part32, eqD_str, inD2, all_str2, aFor, aForE, comesBack, aLc, aSortSet, aPutS, aCl, aIL, aIT, aIR1, aIR2, aIE, aIZ, aIS, wipeE, backE,
  oAdd, oSub, oMul, oMulW, oMod, oDiv, oDivW, oPow, oLt, oLe, oGt, oGe, oI, oIc, oEq, oNe, oIn, oIx, oCat, oAddS, oInS, oIs, oIsNot, oIsB, oIsNB, isNon, oNeg, oBits, bLen, bList, bMax2, bMin2, bMin, aIsi, aSetSl, tyN, kit_NoneType_bool, kit_NoneType_int, kit_NoneType_str, kit_NoneType_list, kit_NoneType_tuple, kit_NoneType_dict, kit_bool_bool, kit_bool_int, kit_bool_str, kit_bool_list, kit_bool_tuple, kit_bool_dict, kit_int_bool, kit_int_int, kit_int_str, kit_int_list, kit_int_tuple, kit_int_dict, kit_str_bool, kit_str_int, kit_str_str, kit_str_list, kit_str_tuple, kit_str_dict, kit_list_bool, kit_list_int, kit_list_str, kit_list_list, kit_list_tuple, kit_list_dict, kit_tuple_bool, kit_tuple_int, kit_tuple_str, kit_tuple_list, kit_tuple_tuple, kit_tuple_dict, kit_dict_bool, kit_dict_int, kit_dict_str, kit_dict_list, kit_dict_tuple, kit_dict_dict, 
  List.getElem?_cons_zero, List.getElem?_cons_succ, List.set_cons_zero, List.set_cons_succ, List.length_cons, List.length_nil, List.set_set, List.getElem?_set_self, Nat.zero_le, okD_nil, okD_str, okD_int, okD_bl, okD_non, ea0, at0, at1, at2, at3, ix0, ix1, ix2, true_and, and_true, Bool.false_eq_true, Bool.not_true, Bool.not_false, ↓reduceIte, *])

def esD (x : List Exch) : D := .lst (x.map exD)
def Swap (x y : List Exch) : Prop := ∃ p a b q, x = p ++ a :: b :: q ∧ y = p ++ b :: a :: q ∧ apart a b = true
theorem Reach.len {a b : List Exch} (x : Reach a b) : b.length = a.length := by
  induction x with
  | refl => rfl
  | step _ _ ih => rw [← ih]; simp
structure Inv (es : List Exch) (F : List (List Exch)) (n : Nat) : Prop where
  me : es ∈ F
  re : ∀ x ∈ F, Reach es x
  cl : ∀ j x, j < n → F[j]? = some x → ∀ y, Swap x y → y ∈ F
theorem Inv.all {es : List Exch} {F : List (List Exch)} {n : Nat} (h : Inv es F n) (hn : F.length ≤ n) : ∀ x, Reach es x → x ∈ F := by
  intro x r
  induction r with
  | refl => exact h.me
  | step _ ha ih =>
    obtain ⟨j, hj, e⟩ := List.mem_iff_getElem.mp ih
    exact h.cl j _ (by omega) (by rw [List.getElem?_eq_getElem hj, e]) _ ⟨_, _, _, _, rfl, rfl, ha⟩
theorem at_split {α : Type} {x : List α} {i : Nat} {a b : α} (h1 : x[i]? = some a) (h2 : x[i + 1]? = some b) : x = x.take i ++ a :: b :: x.drop (i + 2) := by
  obtain ⟨l1, e1⟩ := List.getElem?_eq_some_iff.mp h1
  obtain ⟨l2, e2⟩ := List.getElem?_eq_some_iff.mp h2
  rw [← e1, ← e2, ← List.drop_eq_getElem_cons l2, ← List.drop_eq_getElem_cons l1, List.take_append_drop]
theorem eqD_es (a b : List Exch) : eqD (esD a) (esD b) = decide (a = b) := eqD_exs a b
theorem inD_es (a : List Exch) (F : List (List Exch)) : inD (esD a) (F.map esD) = decide (a ∈ F) := by
  unfold inD
  rw [List.any_map, Bool.eq_iff_iff, List.any_eq_true, decide_eq_true_eq]
  constructor
  · rintro ⟨z, hz, h⟩
    rw [Function.comp_apply, eqD_es, decide_eq_true_eq] at h
    exact h ▸ hz
  · intro h
    exact ⟨a, h, by rw [Function.comp_apply, eqD_es, decide_eq_true_eq]⟩
theorem all_es (F : List (List Exch)) : (F.map esD).all okD = true := by
  rw [List.all_eq_true]
  intro d hd
  obtain ⟨x, _, rfl⟩ := List.mem_map.mp hd
  exact okD_exs x
theorem cut_from {xs : List D} {k : Nat} : cutZ xs (some (k : Int)) none = xs.drop k := by
  unfold cutZ
  rw [HT.sIx_none, HT.sIx_nat]
  by_cases h : k ≤ xs.length
  · rw [Nat.min_eq_left h, List.take_of_length_le (by rw [List.length_drop]; omega)]
  · rw [Nat.min_eq_right (by omega), List.drop_eq_nil_of_le (by omega), List.drop_eq_nil_of_le (by omega), List.take_nil]
section
variable {P : Program} {w : World} {K : PySem.W.Frag} {mg : Str → Option Value} {base : Heap}
def ab_law_all_orders : XA → ASt := fun ea =>
 (aSeq (aAsg 2 (aLst (aCons (aVar 0) aNil)))
 (aSeq (aAsg 3 (aN (aC (.int 0))))
 (aSeq (aWhile (aAnd (aT (aOp oLt (aVar 3) (aCB bLen (rCons (aVar 2) rNil)))) (aT (aOp oLt (aCB bLen (rCons (aVar 2) rNil)) (aVar 1))))
 (aSeq (aFor (aIR2 (rCons (aC (.int 1)) (rCons (aCB bLen (rCons (aVar 0) rNil)) rNil))) (.nm 4)
 (aIf (aT (aFz (aCall ea0 2 sp_law_apart (aCons (aOp oIx (aOp oIx (aVar 2) (aVar 3)) (aOp oSub (aVar 4) (aC (.int 1)))) (aCons (aOp oIx (aOp oIx (aVar 2) (aVar 3)) (aVar 4)) aNil)))))
 (aSeq (aAsg 5 (aOpL oCat (aFz (aOpL oCat (aFz (aSlL (aOp oIx (aVar 2) (aVar 3)) aNo (aSome (aOp oSub (aVar 4) (aC (.int 1)))))) (aFz (aLst (aCons (aOp oIx (aOp oIx (aVar 2) (aVar 3)) (aVar 4)) (aCons (aOp oIx (aOp oIx (aVar 2) (aVar 3)) (aOp oSub (aVar 4) (aC (.int 1)))) aNil)))))) (aFz (aSlL (aOp oIx (aVar 2) (aVar 3)) (aSome (aOp oAdd (aVar 4) (aC (.int 1)))) aNo))))
 (aIf (aT (aOp (oIn true) (aVar 5) (aVar 2)))
 (aDrop (aBM mAppend (aVar 2) (aCons (aVar 5) aNil)))
 aNext))
 aNext))
 (aAsg 3 (aN (aOp oAdd (aVar 3) (aC (.int 1)))))))
 (aRet (aMove 2)))))
theorem go_law_all_orders {w0 w1 : W} {st : List Cell} {A : Zi.N → List Cell → Prop} {Ea : XA} (h : ab_law_all_orders Ea ⟨fun s => A (.w (.d .non)) s.st, A, fun _ => False, fun _ => False⟩ ⟨[.v w0, .v w1, .no, .no, .no, .no], st⟩) : aFn 6 ab_law_all_orders [w0, w1] st A Ea := h
def sp_law_all_orders : ASp := fun ws st A _ => ∃ es : List Exch, ws = [.d (.lst (es.map exD)), .d (.int 300)] ∧ es.length ≤ 20 ∧
  ∀ F : List (List Exch), es ∈ F → (∀ x ∈ F, Reach es x) → (F.length < 300 → ∀ x, Reach es x → x ∈ F) → F.length ≤ 320 → A (.new (.lst (F.map esD))) st
theorem red_law_all_orders (ws st A Ea) (_ : ws.length = 2) (h : sp_law_all_orders ws st A Ea) : aFn 6 ab_law_all_orders ws st A Ea := by
  obtain ⟨es, rfl, hl, q⟩ := h
  refine go_law_all_orders ?_
  unfold ab_law_all_orders
  have big : (10000 : Nat) < sizeLine := by decide
  walk_at "z"
  refine ⟨by omega, ?_⟩
  refine while_ind (fun m s => ∃ (F : List (List Exch)) (n : Nat) (y4 y5 : Sl), s = ⟨[.v (.d (.lst (es.map exD))), .v (.d (.int 300)), .own (.lst (F.map esD)), .v (.d (.int (n : Int))), y4, y5], st⟩ ∧ m = 300 - n ∧ n ≤ F.length ∧ F.length ≤ 320 ∧ Inv es F n) ?_ 300 _ ⟨[es], 0, _, _, rfl, rfl, by simp, by simp, ⟨by simp, by simpa using Reach.refl es, by intros; omega⟩⟩
  rintro m s k hk ⟨F, n, y4, y5, rfl, rfl, hn, hF, hi⟩
  walk_at "z"
  rw [List.length_map, List.length_map]
  by_cases c1 : n < F.length
  · rw [if_pos (decide_eq_true (by omega))]
    by_cases c2 : F.length < 300
    · rw [if_pos (decide_eq_true (by omega))]
      refine ⟨by omega, ?_⟩
      unfold upto forG
      obtain ⟨x, hx⟩ : ∃ x, F[n]? = some x := ⟨_, List.getElem?_eq_getElem c1⟩
      have rx : Reach es x := hi.re _ (List.mem_of_getElem? hx)
      have lx : x.length = es.length := rx.len
      refine forGo_ty _ (fun pre ys s => ∃ (G : List (List Exch)) (y4 y5 : Sl), s = ⟨[.v (.d (.lst (es.map exD))), .v (.d (.int 300)), .own (.lst ((F ++ G).map esD)), .v (.d (.int (n : Int))), y4, y5], st⟩ ∧
        G.length ≤ pre.length ∧ (∀ y ∈ G, Reach es y) ∧ ∀ i ∈ pre, ∀ a b, x[i]? = some a → x[i + 1]? = some b → apart a b = true → x.take i ++ b :: a :: x.drop (i + 2) ∈ F ++ G) _ ?_ ?_ _ ⟨[], y4, y5, by rw [List.append_nil], by simp, by simp, by simp⟩
      · rintro s ⟨G, y4, y5, rfl, g1, g2, g3⟩
        walk_at "z"
        rw [List.length_range] at g1
        refine hk (300 - (n + 1)) _ (by omega) ⟨F ++ G, n + 1, _, _, rfl, rfl, by rw [List.length_append]; omega, by rw [List.length_append]; omega, ⟨List.mem_append_left _ hi.me, fun y hy => ?_, fun j z hj hz y sw => ?_⟩⟩
        · rcases List.mem_append.mp hy with h | h
          · exact hi.re _ h
          · exact g2 _ h
        · by_cases hjn : j = n
          · subst hjn
            rw [List.getElem?_append_left c1, hx] at hz
            cases hz
            obtain ⟨p, a, b, r, rfl, rfl, hab⟩ := sw
            have := g3 p.length (List.mem_range.mpr (by simp only [List.length_append, List.length_cons] at lx; omega)) a b (by simp) (by simp) hab
            simpa using this
          · rw [List.getElem?_append_left (by omega)] at hz
            exact List.mem_append_left _ (hi.cl j z (by omega) hz y sw)
      · rintro pre i ys s k' e1 hk' ⟨G, y4, y5, rfl, g1, g2, g3⟩
        obtain ⟨hi1, hi2⟩ := range_at e1
        have hpre : pre.length + 1 < es.length := by omega
        have hi3 : i + 1 < es.length := by omega
        clear e1 hi1
        have ix : atI ((F ++ G).map esD) (n : Int) = some (esD x) := atI_nat (by rw [List.getElem?_map, List.getElem?_append_left c1, hx]; rfl)
        obtain ⟨a, ha⟩ : ∃ a, x[i]? = some a := ⟨_, List.getElem?_eq_getElem (by omega)⟩
        obtain ⟨b, hb⟩ : ∃ b, x[i + 1]? = some b := ⟨_, List.getElem?_eq_getElem (by omega)⟩
        have i1 : (1 : Int) + (i : Int) - 1 = (i : Int) := by omega
        have i2 : (1 : Int) + (i : Int) = ((i + 1 : Nat) : Int) := by omega
        have i3 : ((i + 1 : Nat) : Int) - 1 = (i : Int) := by omega
        have i4 : ((i + 1 : Nat) : Int) + 1 = ((i + 2 : Nat) : Int) := by omega
        have ea : atI (x.map exD) (i : Int) = some (exD a) := atI_nat (by rw [List.getElem?_map, ha]; rfl)
        have eb : atI (x.map exD) ((i + 1 : Nat) : Int) = some (exD b) := atI_nat (by rw [List.getElem?_map, hb]; rfl)
        have es' : esD x = .lst (x.map exD) := rfl
        have ct := @cut_to (x.map exD) i
        have cf := @cut_from (x.map exD) (i + 2)
        clear i1
        rw [i2]
        clear i2
        have fin : ∀ (G' : List (List Exch)) (y5 : Sl), G'.length ≤ G.length + 1 → (∀ y ∈ G', Reach es y) → (∀ z ∈ G, z ∈ G') → (apart a b = true → x.take i ++ b :: a :: x.drop (i + 2) ∈ F ++ G') →
            k' ⟨[.v (.d (.lst (es.map exD))), .v (.d (.int 300)), .own (.lst ((F ++ G').map esD)), .v (.d (.int (n : Int))), .v (.d (.int ((i + 1 : Nat) : Int))), y5], st⟩ := fun G' y5 f1 f2 f3 f4 => hk' _ ⟨G', _, y5, rfl, by rw [List.length_append, List.length_singleton]; omega, f2, fun i' hi' a' b' ha' hb' hab => by
              rcases List.mem_append.mp hi' with h | h
              · rcases List.mem_append.mp (g3 i' h a' b' ha' hb' hab) with h | h
                · exact List.mem_append_left _ h
                · exact List.mem_append_right _ (f3 _ h)
              · rw [List.mem_singleton] at h
                subst h
                rw [ha] at ha'; rw [hb] at hb'
                cases ha'; cases hb'
                exact f4 hab⟩
        clear hk hk'
        walk_at "z"
        refine ⟨a, b, rfl, ?_⟩
        by_cases hab : apart a b = true
        · rw [hab]
          obtain ⟨W, hW⟩ : ∃ W, W = x.take i ++ b :: a :: x.drop (i + 2) := ⟨_, rfl⟩
          rw [← hW] at fin
          have rW : Reach es W := by
            rw [hW]
            exact .step (by rw [← at_split ha hb]; exact rx) hab
          have hw : (x.map exD).take i ++ [exD b, exD a] ++ (x.map exD).drop (i + 2) = W.map exD := by
            rw [hW, List.map_append, List.map_cons, List.map_cons, List.map_take, List.map_drop, List.append_assoc]
            rfl
          clear hab hW
          walk_at "z"
          refine ⟨by omega, by simp only [List.length_take, List.length_map]; omega, by simp only [List.length_append, List.length_take, List.length_drop, List.length_map, List.length_cons, List.length_nil]; omega, okD_exs _, all_es _, ?_⟩
          rw [show D.lst (W.map exD) = esD W from rfl, inD_es]
          by_cases hm : W ∈ F ++ G
          · rw [decide_eq_true hm, if_neg (by decide)]
            exact fin G _ (by omega) g2 (fun _ h => h) (fun _ => hm)
          · rw [decide_eq_false hm, if_pos (by decide)]
            refine ⟨by rw [List.length_map, List.length_append]; omega, ?_⟩
            have := fin (G ++ [W]) (.v (.d (esD W))) (by simp) (fun z hz => by
              rcases List.mem_append.mp hz with h | h
              · exact g2 _ h
              · rw [List.mem_singleton.mp h]; exact rW) (fun z hz => List.mem_append_left _ hz) (fun _ => by simp)
            rw [← List.append_assoc, List.map_append] at this
            exact this
        · rw [Bool.not_eq_true] at hab
          rw [hab]
          have := fin G y5 (by omega) g2 (fun _ h => h) (by rw [hab]; intro h; cases h)
          clear hab
          walk_at "z"
    · rw [if_neg (fun h => absurd (of_decide_eq_true h) (by omega))]
      exact q F hi.me hi.re (fun h => (c2 h).elim) hF
  · rw [if_neg (fun h => absurd (of_decide_eq_true h) (by omega))]
    exact q F hi.me hi.re (fun _ => hi.all (by omega)) hF
theorem ok_law_all_orders (T : Top K mg) : FnOk P w K mg base CX0 2 T.a_law_all_orders T.fd_law_all_orders ["_law_history", "_law_most"] (SpA 2 sp_law_all_orders) := by
  refine T.F_law_all_orders.ok sc_law_all_orders (fun vs H Q E h => SpA.len h) (fun cdv A outer s H vs Q E hr h => ?_)
  refine ⟨_, (pss_cons (ps_set (i := 2) sc_law_all_orders.nd rfl (Or.inl rfl) (pe_lst (pa_cons (pv 0) pa_nil)))
 (pss_cons (ps_set (i := 3) sc_law_all_orders.nd rfl (Or.inl rfl) pe_int)
 (pss_cons (ps_while PassesOwn.never (PW.pt (pw_and (pt_cmpR op_lt (pv 3) (pe_callB (call_lenK K rfl) (by rfl) T.z_len (by decide +kernel) (pa_cons (pv 2) pa_nil)) (nomark _)) (pw_and1 (pt_cmpR op_lt (pe_callB (call_lenK K rfl) (by rfl) T.z_len (by decide +kernel) (pa_cons (pv 2) pa_nil)) (pv 1) (nomark _))))) (pss_cons (ps_for PassesOwn.never rfl (pi_range2 rfl T.z_range (pa_cons pe_int (pa_cons (pe_callB (call_lenK K rfl) (by rfl) T.z_len (by decide +kernel) (pa_cons (pv 0) pa_nil)) pa_nil))) (pg_name (i := 4) sc_law_all_orders.nd rfl (Or.inl rfl)) (pss_one (ps_if (pt_val (pe_call (ok_law_apart T) (hr.mono (by decide)) (by rfl) T.g_law_apart T.F_law_apart.kp T.b_law_apart .nil pass0 (pa_cons (pe_ix (ix_seqK K rfl) (pe_ix (ix_seqK K rfl) (pv 2) (pv 3) (fun _ _ => rfl)) (pe_op op_sub (pv 4) pe_int) (fun _ _ => rfl)) (pa_cons (pe_ix (ix_seqK K rfl) (pe_ix (ix_seqK K rfl) (pv 2) (pv 3) (fun _ _ => rfl)) (pv 4) (fun _ _ => rfl)) pa_nil)))) (pss_cons (ps_set (i := 5) sc_law_all_orders.nd rfl (Or.inl rfl) (pe_op op_cat (pe_op op_cat (pe_slice (sl_listK K rfl) (pe_ix (ix_seqK K rfl) (pv 2) (pv 3) (fun _ _ => rfl)) po_none (po_some (pe_op op_sub (pv 4) pe_int))) (pe_lst (pa_cons (pe_ix (ix_seqK K rfl) (pe_ix (ix_seqK K rfl) (pv 2) (pv 3) (fun _ _ => rfl)) (pv 4) (fun _ _ => rfl)) (pa_cons (pe_ix (ix_seqK K rfl) (pe_ix (ix_seqK K rfl) (pv 2) (pv 3) (fun _ _ => rfl)) (pe_op op_sub (pv 4) pe_int) (fun _ _ => rfl)) pa_nil)))) (pe_slice (sl_listK K rfl) (pe_ix (ix_seqK K rfl) (pv 2) (pv 3) (fun _ _ => rfl)) (po_some (pe_op op_add (pv 4) pe_int)) po_none)))
 (pss_one (ps_if (pt_cmpR (op_niQ hr.units) (pv 5) (pv 2) (by rfl)) (pss_one (ps_expr (bmK K rfl (pe_bm PySem.F.plainAttrs_list PySem.F.slot_list_append PySem.F.type_list_append mt_append (pv 2) (pa_cons (pv 5) pa_nil))))) pss_nil))) pss_nil)))
 (pss_one (ps_set (i := 3) sc_law_all_orders.nd rfl (Or.inl rfl) (pe_op op_add (pv 3) pe_int)))))
 (pss_one (ps_ret (pv 2)))))), fn_read (N := ["_law_history", "_law_most", "_law_found", "_law_at_here", "_law_k", "_law_more"]) (ab := ab_law_all_orders) (fun ea => ?_) red_law_all_orders h⟩
  unfold ab_law_all_orders
  exact (RS.seq (RS.asg (RN.lst (RA.cons RE.var RA.nil)))
 (RS.seq (RS.asg (RN.of RE.int))
 (RS.seq (RS.while (RT.and (RT.test (RE.op oLt_ok RE.var (RE.cb bLen_ok (RR.cons RE.var RR.nil)))) (RT.test (RE.op oLt_ok (RE.cb bLen_ok (RR.cons RE.var RR.nil)) RE.var)))
 (RS.seq (RS.for (RI.rng2 (RR.cons RE.int (RR.cons (RE.cb bLen_ok (RR.cons RE.var RR.nil)) RR.nil))) RG.nm
 (RS.ifs (RT.b (RE.fz (RN.call0 (asp := sp_law_apart) (RA.cons (RE.op oIx_ok (RE.op oIx_ok RE.var RE.var) (RE.op oSub_ok RE.var RE.int)) (RA.cons (RE.op oIx_ok (RE.op oIx_ok RE.var RE.var) RE.var) RA.nil)))))
 (RS.seq (RS.asg (RN.op oCat_ok (RE.fz (RN.op oCat_ok (RE.fz (RN.slL (RE.op oIx_ok RE.var RE.var) RO.none (RO.some (RE.op oSub_ok RE.var RE.int)))) (RE.fz (RN.lst (RA.cons (RE.op oIx_ok (RE.op oIx_ok RE.var RE.var) RE.var) (RA.cons (RE.op oIx_ok (RE.op oIx_ok RE.var RE.var) (RE.op oSub_ok RE.var RE.int)) RA.nil)))))) (RE.fz (RN.slL (RE.op oIx_ok RE.var RE.var) (RO.some (RE.op oAdd_ok RE.var RE.int)) RO.none))))
 (RS.ifs (RT.test (RE.op oIn_ok RE.var RE.var))
 (RS.drop (RE.bm mAppend_ok RE.var (RA.cons RE.var RA.nil)))
 RS.next))
 RS.next))
 (RS.asg (RN.of (RE.op oAdd_ok RE.var RE.int)))))
 (RS.ret RN.move))))
end
end K06

set_option Elab.async false
set_option linter.all false
set_option maxRecDepth 100000
set_option maxHeartbeats 400000
namespace K06
open PySem PySem.Spec PyProof.Rows L2 Ly Zi Zs Lc
open PySem.W (minD AlikeAll)
local macro_rules | `(tactic| walk_at "z") => `(tactic| simp (config := { dsimp := false }) only [aSeq, aIf, aT, aYes, aAnd, aOr, aNot, aOp, aOpL, aUn, aVar, aC, aRaw, aMove, pk, q_peek_w, q_peek_s, q_peekW_d, q_peekW_loc, q_cellD_lst, q_cellD_dic, ↓q_toW_w, q_toW_w, ↓q_toW_s, q_toW_s, ↓q_toL_w, q_toL_w, ↓q_toL_s, q_toL_s, ↓q_nToW_w, q_nToW_w, ↓q_nToW_lst, q_nToW_lst, ↓q_nToW_dic, q_nToW_dic, q_put_w, q_put_n, q_getC_loc, q_getC_s, q_putC_loc, q_putC_s, aFz, aN, aAsg, aAsgT, q_bind_nm, q_bind_tp, q_binds_nil, q_binds_cons, aRet, aRetN, aDrop, aDropN, aNext, aBreak, aCont, aAug, aSetIx, aDPut, aCall, aCons, aConsL, aNil, aLst, aTup, lstC, wsD, rCons, rNil, pks, aCB, aCBL, aBM, aBM0, isL, mAppend, mPop, mPopAt,
  aSlL, aSlT, aRevL, aNo, aSome, aAndV, aOrV, aNotV, aIfE, aChain, aDIn, aDGet, aDNew, withDic, Zi.keyOf, cut2, part32, eqD_str, inD2, all_str2, aFor, aForE, comesBack, aLc, aSortSet, aPutS, aCl, aIL, aIT, aIR1, aIR2, aIE, aIZ, aIS, wipeE, backE,
  oAdd, oSub, oMul, oMulW, oMod, oDiv, oDivW, oPow, oLt, oLe, oGt, oGe, oI, oIc, oEq, oNe, oIn, oIx, oCat, oAddS, oInS, oIs, oIsNot, oIsB, oIsNB, isNon, oNeg, oBits, bLen, bList, bMax2, bMin2, bMin, aIsi, aSetSl, tyN, kit_NoneType_bool, kit_NoneType_int, kit_NoneType_str, kit_NoneType_list, kit_NoneType_tuple, kit_NoneType_dict, kit_bool_bool, kit_bool_int, kit_bool_str, kit_bool_list, kit_bool_tuple, kit_bool_dict, kit_int_bool, kit_int_int, kit_int_str, kit_int_list, kit_int_tuple, kit_int_dict, kit_str_bool, kit_str_int, kit_str_str, kit_str_list, kit_str_tuple, kit_str_dict, kit_list_bool, kit_list_int, kit_list_str, kit_list_list, kit_list_tuple, kit_list_dict, kit_tuple_bool, kit_tuple_int, kit_tuple_str, kit_tuple_list, kit_tuple_tuple, kit_tuple_dict, kit_dict_bool, kit_dict_int, kit_dict_str, kit_dict_list, kit_dict_tuple, kit_dict_dict, 
  List.getElem?_cons_zero, List.getElem?_cons_succ, List.set_cons_zero, List.set_cons_succ, List.length_cons, List.length_nil, List.set_set, List.getElem?_set_self, Nat.zero_le, okD_nil, okD_str, okD_int, okD_bl, okD_non, ea0, at0, at1, at2, at3, ix0, ix1, ix2, true_and, and_true, Bool.false_eq_true, Bool.not_true, Bool.not_false, ↓reduceIte, *])
local macro_rules | `(tactic| walk_at "y") => `(tactic| simp only [aSeq, aIf, aT, aYes, aAnd, aOr, aNot, aOp, aOpL, aUn, aVar, aC, aRaw, aMove, pk, q_peek_w, q_peek_s, q_peekW_d, q_peekW_loc, q_cellD_lst, q_cellD_dic, ↓q_toW_w, q_toW_w, ↓q_toW_s, q_toW_s, ↓q_toL_w, q_toL_w, ↓q_toL_s, q_toL_s, ↓q_nToW_w, q_nToW_w, ↓q_nToW_lst, q_nToW_lst, ↓q_nToW_dic, q_nToW_dic, q_put_w, q_put_n, q_getC_loc, q_getC_s, q_putC_loc, q_putC_s, aFz, aN, aAsg, aAsgT, q_bind_nm, q_bind_tp, q_binds_nil, q_binds_cons, aRet, aRetN, aDrop, aDropN, aNext, aBreak, aCont, aAug, aSetIx, aDPut, aCall, aCons, aConsL, aNil, aLst, aTup, lstC, wsD, rCons, rNil, pks, aCB, aCBL, aBM, aBM0, isL, mAppend, mPop, mPopAt,
  aSlL, aSlT, aRevL, aNo, aSome, aAndV, aOrV, aNotV, aIfE, aChain, aDIn, aDGet, aDNew, withDic, Zi.keyOf, cut2, part32, eqD_str, inD2, all_str2, aFor, aForE, comesBack, aLc, aSortSet, aPutS, aCl, aIL, aIT, aIR1, aIR2, aIE, aIZ, aIS, wipeE, backE,
  oAdd, oSub, oMul, oMulW, oMod, oDiv, oDivW, oPow, oLt, oLe, oGt, oGe, oI, oIc, oEq, oNe, oIn, oIx, oCat, oAddS, oInS, oIs, oIsNot, oIsB, oIsNB, isNon, oNeg, oBits, bLen, bList, bMax2, bMin2, bMin, aIsi, aSetSl, tyN, kit_NoneType_bool, kit_NoneType_int, kit_NoneType_str, kit_NoneType_list, kit_NoneType_tuple, kit_NoneType_dict, kit_bool_bool, kit_bool_int, kit_bool_str, kit_bool_list, kit_bool_tuple, kit_bool_dict, kit_int_bool, kit_int_int, kit_int_str, kit_int_list, kit_int_tuple, kit_int_dict, kit_str_bool, kit_str_int, kit_str_str, kit_str_list, kit_str_tuple, kit_str_dict, kit_list_bool, kit_list_int, kit_list_str, kit_list_list, kit_list_tuple, kit_list_dict, kit_tuple_bool, kit_tuple_int, kit_tuple_str, kit_tuple_list, kit_tuple_tuple, kit_tuple_dict, kit_dict_bool, kit_dict_int, kit_dict_str, kit_dict_list, kit_dict_tuple, kit_dict_dict, 
  List.getElem?_cons_zero, List.getElem?_cons_succ, List.set_cons_zero, List.set_cons_succ, List.length_cons, List.length_nil, List.set_set, List.getElem?_set_self, Nat.zero_le, okD_nil, okD_str, okD_int, okD_bl, okD_non, ea0, at0, at1, at2, at3, ix0, ix1, ix2, true_and, and_true, Bool.false_eq_true, Bool.not_true, Bool.not_false, ↓reduceIte, *])

theorem cut_fromTo {xs : List D} {k : Nat} : cutZ xs (some ((k : Int) + 1)) none = xs.drop (k + 1) := cut_from (k := k + 1)
section
variable {P : Program} {w : World} {K : PySem.W.Frag} {mg : Str → Option Value} {base : Heap}
def ab_law_second : XA → ASt := fun ea =>
 (aSeq (aAsg 3 (aCall ea0 2 sp_law_draw (aConsL (aVar 0) (aCons (aC (.int 7)) aNil))))
 (aSeq (aAsg 4 (aCall ea0 2 sp_law_draw (aConsL (aVar 0) (aCons (aOp oAdd (aCB bLen (rCons (aVar 1) rNil)) (aC (.int 1))) aNil))))
 (aSeq (aIf (aT (aOp oLt (aVar 3) (aC (.int 3))))
 (aRet (aCall ea0 2 sp_law_swapped (aConsL (aVar 0) (aCons (aVar 1) aNil))))
 aNext)
 (aSeq (aIf (aT (aOp oEq (aVar 3) (aC (.int 3))))
 (aRet (aOpL oCat (aFz (aSlL (aVar 1) aNo (aSome (aVar 4)))) (aFz (aRevL (aFz (aSlL (aVar 1) (aSome (aVar 4)) aNo))))))
 aNext)
 (aSeq (aIf (aT (aOp oEq (aVar 3) (aC (.int 4))))
 (aRet (aOpL oCat (aFz (aSlL (aVar 1) aNo (aSome (aVar 4)))) (aFz (aSlL (aVar 1) (aSome (aOp oAdd (aVar 4) (aC (.int 1)))) aNo))))
 aNext)
 (aSeq (aIf (aT (aOp oEq (aVar 3) (aC (.int 5))))
 (aRet (aOpL oCat (aFz (aOpL oCat (aFz (aSlL (aVar 1) aNo (aSome (aVar 4)))) (aFz (aLst (aCons (aFz (aCall ea0 2 sp_law_exchange (aConsL (aVar 0) (aCons (aVar 2) aNil)))) aNil))))) (aFz (aSlL (aVar 1) (aSome (aOp oAdd (aVar 4) (aC (.int 1)))) aNo))))
 aNext)
 (aRet (aOpL oCat (aVar 1) (aFz (aSlL (aVar 1) aNo (aSome (aC (.int 1)))))))))))))
theorem go_law_second {w0 w1 w2 : W} {st : List Cell} {A : Zi.N → List Cell → Prop} {Ea : XA} (h : ab_law_second Ea ⟨fun s => A (.w (.d .non)) s.st, A, fun _ => False, fun _ => False⟩ ⟨[.v w0, .v w1, .v w2, .no, .no], st⟩) : aFn 5 ab_law_second [w0, w1, w2] st A Ea := h
def sp_law_second : ASp := fun ws st A _ => ∃ (p : Nat) (es : List Exch) (ss : List Str) (a b c : Int), ws = [.loc p, .d (.lst (es.map exD)), .d (.lst (ss.map D.str))] ∧ es.length ≤ 10 ∧ 2 ≤ ss.length ∧ ss.length ≤ 10 ∧ st[p]? = some (Pur a b c) ∧ PurOk a b c ∧ c + 200 ≤ 1000000 ∧
  (∀ e ∈ es, e.1 ∈ ss ∧ e.2.1 ∈ ss) ∧ ∀ (L : List Exch) (a' b' c' : Int), L.length ≤ es.length + 1 → (∀ e ∈ L, e.1 ∈ ss ∧ e.2.1 ∈ ss) → PurOk a' b' c' → c ≤ c' → c' ≤ c + 200 → A (.new (.lst (L.map exD))) (st.set p (Pur a' b' c'))
theorem red_law_second (ws st A Ea) (_ : ws.length = 3) (h : sp_law_second ws st A Ea) : aFn 5 ab_law_second ws st A Ea := by
  obtain ⟨p, es, ss, a, b, c, rfl, hl, l2, l10, hp, hpo, hc, hes, q⟩ := h
  have hpl : p < st.length := (List.getElem?_eq_some_iff.mp hp).1
  have big : (10000 : Nat) < sizeLine := by decide
  refine go_law_second ?_
  unfold ab_law_second
  walk_at "z"
  refine ⟨p, 7, a, b, c, rfl, by omega, by omega, hp, hpo, by omega, fun way a1 b1 c1 w0 w1 po1 h1 h2 => ?_⟩
  walk_at "z"
  rw [List.length_map]
  refine ⟨p, _, a1, b1, c1, rfl, by omega, by omega, List.getElem?_set_self hpl, po1, by omega, fun r a2 b2 c2 r0 r1 po2 h3 h4 => ?_⟩
  obtain ⟨n, rfl⟩ := Int.eq_ofNat_of_zero_le r0
  have fin : ∀ (L : List Exch), L.length ≤ es.length + 1 → (∀ e ∈ L, e.1 ∈ ss ∧ e.2.1 ∈ ss) → A (.new (.lst (L.map exD))) (st.set p (Pur a2 b2 c2)) := fun L f1 f2 => q L a2 b2 c2 f1 f2 po2 (by omega) (by omega)
  have ct := @cut_to (es.map exD) n
  have cf := @cut_from (es.map exD) n
  have cf1 := @cut_fromTo (es.map exD) n
  have ct1 := @cut_to (es.map exD) 1
  clear hp
  walk_at "z"
  have lm : ∀ (f : Exch → Prop) (k m : Nat), (∀ e ∈ es, f e) → ∀ e ∈ es.take k ++ es.drop m, f e := fun f k m h e he => by
    rcases List.mem_append.mp he with h' | h'
    · exact h _ (List.mem_of_mem_take h')
    · exact h _ (List.mem_of_mem_drop h')
  split
  · refine ⟨p, es, a2, b2, c2, rfl, by omega, List.getElem?_set_self hpl, po2, by omega, fun L a3 b3 c3 f1 f2 po3 h5 h6 => ?_⟩
    have := q L a3 b3 c3 (by omega) (fun e he => hes e (f2 e he)) po3 (by omega) (by omega)
    walk_at "z"
  split
  · refine ⟨by simp only [List.length_append, List.length_take, List.length_drop, List.length_reverse, List.length_map]; omega, ?_⟩
    have := fin (es.take n ++ (es.drop n).reverse) (by simp only [List.length_append, List.length_take, List.length_drop, List.length_reverse]; omega) (fun e he => by
      rcases List.mem_append.mp he with h' | h'
      · exact hes _ (List.mem_of_mem_take h')
      · exact hes _ (List.mem_of_mem_drop (List.mem_reverse.mp h')))
    rw [List.map_append, List.map_reverse, List.map_take, List.map_drop] at this
    exact this
  split
  · refine ⟨by simp only [List.length_append, List.length_take, List.length_drop, List.length_reverse, List.length_map]; omega, ?_⟩
    have := fin (es.take n ++ es.drop (n + 1)) (by simp only [List.length_append, List.length_take, List.length_drop]; omega) (lm _ _ _ hes)
    rw [List.map_append, List.map_take, List.map_drop] at this
    exact this
  split
  · refine ⟨p, ss, a2, b2, c2, rfl, l2, l10, List.getElem?_set_self hpl, po2, by omega, fun e a3 b3 c3 e1 e2 po3 h5 h6 => ?_⟩
    have := q (es.take n ++ [e] ++ es.drop (n + 1)) a3 b3 c3 (by simp only [List.length_append, List.length_take, List.length_drop, List.length_singleton]; omega) (fun x hx => by
      rcases List.mem_append.mp hx with h' | h'
      · rcases List.mem_append.mp h' with h' | h'
        · exact hes _ (List.mem_of_mem_take h')
        · rw [List.mem_singleton.mp h']; exact ⟨e1, e2⟩
      · exact hes _ (List.mem_of_mem_drop h')) po3 (by omega) (by omega)
    rw [List.map_append, List.map_append, List.map_take, List.map_drop, List.map_cons, List.map_nil] at this
    walk_at "z"
    refine ⟨by omega, ?_, ?_⟩ <;> simp only [List.length_append, List.length_take, List.length_drop, List.length_map, List.length_singleton] <;> omega
  · rw [show cutZ (es.map exD) none (some 1) = (es.map exD).take 1 from ct1]
    refine ⟨by simp only [List.length_take, List.length_map]; omega, ?_⟩
    have := fin (es ++ es.take 1) (by simp only [List.length_append, List.length_take]; omega) (fun e he => by
      rcases List.mem_append.mp he with h' | h'
      · exact hes _ h'
      · exact hes _ (List.mem_of_mem_take h'))
    rw [List.map_append, List.map_take] at this
    exact this
theorem ok_law_second (T : Top K mg) : FnOk P w K mg base CX0 5 T.a_law_second T.fd_law_second ["_law_purse_here", "_law_history", "_law_people"] (SpA 3 sp_law_second) := by
  refine T.F_law_second.ok sc_law_second (fun vs H Q E h => SpA.len h) (fun cdv A outer s H vs Q E hr h => ?_)
  refine ⟨_, (pss_cons (ps_set (i := 3) sc_law_second.nd rfl (Or.inl rfl) (pe_call (ok_law_draw T) (hr.mono (by decide)) (by rfl) T.g_law_draw T.F_law_draw.kp T.b_law_draw .nil pass0 (pa_cons (pv 0) (pa_cons pe_int pa_nil))))
 (pss_cons (ps_set (i := 4) sc_law_second.nd rfl (Or.inl rfl) (pe_call (ok_law_draw T) (hr.mono (by decide)) (by rfl) T.g_law_draw T.F_law_draw.kp T.b_law_draw .nil pass0 (pa_cons (pv 0) (pa_cons (pe_op op_add (pe_callB (call_lenK K rfl) (by rfl) T.z_len (by decide +kernel) (pa_cons (pv 1) pa_nil)) pe_int) pa_nil))))
 (pss_cons (ps_if (pt_cmpR op_lt (pv 3) pe_int (nomark _)) (pss_one (ps_ret (pe_call (ok_law_swapped T) (hr.mono (by decide)) (by rfl) T.g_law_swapped T.F_law_swapped.kp T.b_law_swapped .nil pass0 (pa_cons (pv 0) (pa_cons (pv 1) pa_nil))))) pss_nil)
 (pss_cons (ps_if (pt_cmpR (op_eqQ hr.units) (pv 3) pe_int (nomark _)) (pss_one (ps_ret (pe_op op_cat (pe_slice (sl_listK K rfl) (pv 1) po_none (po_some (pv 4))) (pe_revLK K rfl (pe_slice (sl_listK K rfl) (pv 1) (po_some (pv 4)) po_none))))) pss_nil)
 (pss_cons (ps_if (pt_cmpR (op_eqQ hr.units) (pv 3) pe_int (nomark _)) (pss_one (ps_ret (pe_op op_cat (pe_slice (sl_listK K rfl) (pv 1) po_none (po_some (pv 4))) (pe_slice (sl_listK K rfl) (pv 1) (po_some (pe_op op_add (pv 4) pe_int)) po_none)))) pss_nil)
 (pss_cons (ps_if (pt_cmpR (op_eqQ hr.units) (pv 3) pe_int (nomark _)) (pss_one (ps_ret (pe_op op_cat (pe_op op_cat (pe_slice (sl_listK K rfl) (pv 1) po_none (po_some (pv 4))) (pe_lst (pa_cons (pe_call (ok_law_exchange T) (hr.mono (by decide)) (by rfl) T.g_law_exchange T.F_law_exchange.kp T.b_law_exchange .nil pass0 (pa_cons (pv 0) (pa_cons (pv 2) pa_nil))) pa_nil))) (pe_slice (sl_listK K rfl) (pv 1) (po_some (pe_op op_add (pv 4) pe_int)) po_none)))) pss_nil)
 (pss_one (ps_ret (pe_op op_cat (pv 1) (pe_slice (sl_listK K rfl) (pv 1) po_none (po_some pe_int))))))))))), fn_read (N := ["_law_purse_here", "_law_history", "_law_people", "_law_way", "_law_at_here"]) (ab := ab_law_second) (fun ea => ?_) red_law_second h⟩
  unfold ab_law_second
  exact (RS.seq (RS.asg (RN.call0 (asp := sp_law_draw) (RA.consL RE.var (RA.cons RE.int RA.nil))))
 (RS.seq (RS.asg (RN.call0 (asp := sp_law_draw) (RA.consL RE.var (RA.cons (RE.op oAdd_ok (RE.cb bLen_ok (RR.cons RE.var RR.nil)) RE.int) RA.nil))))
 (RS.seq (RS.ifs (RT.test (RE.op oLt_ok RE.var RE.int))
 (RS.ret (RN.call0 (asp := sp_law_swapped) (RA.consL RE.var (RA.cons RE.var RA.nil))))
 RS.next)
 (RS.seq (RS.ifs (RT.test (RE.op oEq_ok RE.var RE.int))
 (RS.ret (RN.op oCat_ok (RE.fz (RN.slL RE.var RO.none (RO.some RE.var))) (RE.fz (RN.revL (RE.fz (RN.slL RE.var (RO.some RE.var) RO.none))))))
 RS.next)
 (RS.seq (RS.ifs (RT.test (RE.op oEq_ok RE.var RE.int))
 (RS.ret (RN.op oCat_ok (RE.fz (RN.slL RE.var RO.none (RO.some RE.var))) (RE.fz (RN.slL RE.var (RO.some (RE.op oAdd_ok RE.var RE.int)) RO.none))))
 RS.next)
 (RS.seq (RS.ifs (RT.test (RE.op oEq_ok RE.var RE.int))
 (RS.ret (RN.op oCat_ok (RE.fz (RN.op oCat_ok (RE.fz (RN.slL RE.var RO.none (RO.some RE.var))) (RE.fz (RN.lst (RA.cons (RE.fz (RN.call0 (asp := sp_law_exchange) (RA.consL RE.var (RA.cons RE.var RA.nil)))) RA.nil))))) (RE.fz (RN.slL RE.var (RO.some (RE.op oAdd_ok RE.var RE.int)) RO.none))))
 RS.next)
 (RS.ret (RN.op oCat_ok RE.var (RE.fz (RN.slL RE.var RO.none (RO.some RE.int)))))))))))
end
end K06

set_option Elab.async false
set_option linter.all false
set_option maxRecDepth 100000
set_option maxHeartbeats 400000
namespace K06
open PySem PySem.Spec PyProof.Rows L2 Ly Zi Zs Lc
open PySem.W (minD AlikeAll)
local macro_rules | `(tactic| walk_at "z") => `(tactic| simp (config := { dsimp := false }) only [aSeq, aIf, aT, aYes, aAnd, aOr, aNot, aOp, aOpL, aUn, aVar, aC, aRaw, aMove, pk, q_peek_w, q_peek_s, q_peekW_d, q_peekW_loc, q_cellD_lst, q_cellD_dic, ↓q_toW_w, q_toW_w, ↓q_toW_s, q_toW_s, ↓q_toL_w, q_toL_w, ↓q_toL_s, q_toL_s, ↓q_nToW_w, q_nToW_w, ↓q_nToW_lst, q_nToW_lst, ↓q_nToW_dic, q_nToW_dic, q_put_w, q_put_n, q_getC_loc, q_getC_s, q_putC_loc, q_putC_s, aFz, aN, aAsg, aAsgT, q_bind_nm, q_bind_tp, q_binds_nil, q_binds_cons, aRet, aRetN, aDrop, aDropN, aNext, aBreak, aCont, aAug, aSetIx, aDPut, aCall, aCons, aConsL, aNil, aLst, aTup, lstC, wsD, rCons, rNil, pks, aCB, aCBL, aBM, aBM0, isL, mAppend, mPop, mPopAt,
  aSlL, aSlT, aRevL, aNo, aSome, aAndV, aOrV, aNotV, aIfE, aChain, aDIn, aDGet, aDNew, withDic, Zi.keyOf, cut2, part32, eqD_str, inD2, all_str2, aFor, aForE, comesBack, aLc, aSortSet, aPutS, aCl, aIL, aIT, aIR1, aIR2, aIE, aIZ, aIS, wipeE, backE,
  oAdd, oSub, oMul, oMulW, oMod, oDiv, oDivW, oPow, oLt, oLe, oGt, oGe, oI, oIc, oEq, oNe, oIn, oIx, oCat, oAddS, oInS, oIs, oIsNot, oIsB, oIsNB, isNon, oNeg, oBits, bLen, bList, bMax2, bMin2, bMin, aIsi, aSetSl, tyN, kit_NoneType_bool, kit_NoneType_int, kit_NoneType_str, kit_NoneType_list, kit_NoneType_tuple, kit_NoneType_dict, kit_bool_bool, kit_bool_int, kit_bool_str, kit_bool_list, kit_bool_tuple, kit_bool_dict, kit_int_bool, kit_int_int, kit_int_str, kit_int_list, kit_int_tuple, kit_int_dict, kit_str_bool, kit_str_int, kit_str_str, kit_str_list, kit_str_tuple, kit_str_dict, kit_list_bool, kit_list_int, kit_list_str, kit_list_list, kit_list_tuple, kit_list_dict, kit_tuple_bool, kit_tuple_int, kit_tuple_str, kit_tuple_list, kit_tuple_tuple, kit_tuple_dict, kit_dict_bool, kit_dict_int, kit_dict_str, kit_dict_list, kit_dict_tuple, kit_dict_dict, 
  List.getElem?_cons_zero, List.getElem?_cons_succ, List.set_cons_zero, List.set_cons_succ, List.length_cons, List.length_nil, List.set_set, List.getElem?_set_self, Nat.zero_le, okD_nil, okD_str, okD_int, okD_bl, okD_non, ea0, at0, at1, at2, at3, ix0, ix1, ix2, true_and, and_true, Bool.false_eq_true, Bool.not_true, Bool.not_false, ↓reduceIte, *])
local macro_rules | `(tactic| walk_at "y") => `(tactic| simp only [aSeq, aIf, aT, aYes, aAnd, aOr, aNot, aOp, aOpL, aUn, aVar, aC, aRaw, aMove, pk, q_peek_w, q_peek_s, q_peekW_d, q_peekW_loc, q_cellD_lst, q_cellD_dic, ↓q_toW_w, q_toW_w, ↓q_toW_s, q_toW_s, ↓q_toL_w, q_toL_w, ↓q_toL_s, q_toL_s, ↓q_nToW_w, q_nToW_w, ↓q_nToW_lst, q_nToW_lst, ↓q_nToW_dic, q_nToW_dic, q_put_w, q_put_n, q_getC_loc, q_getC_s, q_putC_loc, q_putC_s, aFz, aN, aAsg, aAsgT, q_bind_nm, q_bind_tp, q_binds_nil, q_binds_cons, aRet, aRetN, aDrop, aDropN, aNext, aBreak, aCont, aAug, aSetIx, aDPut, aCall, aCons, aConsL, aNil, aLst, aTup, lstC, wsD, rCons, rNil, pks, aCB, aCBL, aBM, aBM0, isL, mAppend, mPop, mPopAt,
  aSlL, aSlT, aRevL, aNo, aSome, aAndV, aOrV, aNotV, aIfE, aChain, aDIn, aDGet, aDNew, withDic, Zi.keyOf, cut2, part32, eqD_str, inD2, all_str2, aFor, aForE, comesBack, aLc, aSortSet, aPutS, aCl, aIL, aIT, aIR1, aIR2, aIE, aIZ, aIS, wipeE, backE,
  oAdd, oSub, oMul, oMulW, oMod, oDiv, oDivW, oPow, oLt, oLe, oGt, oGe, oI, oIc, oEq, oNe, oIn, oIx, oCat, oAddS, oInS, oIs, oIsNot, oIsB, oIsNB, isNon, oNeg, oBits, bLen, bList, bMax2, bMin2, bMin, aIsi, aSetSl, tyN, kit_NoneType_bool, kit_NoneType_int, kit_NoneType_str, kit_NoneType_list, kit_NoneType_tuple, kit_NoneType_dict, kit_bool_bool, kit_bool_int, kit_bool_str, kit_bool_list, kit_bool_tuple, kit_bool_dict, kit_int_bool, kit_int_int, kit_int_str, kit_int_list, kit_int_tuple, kit_int_dict, kit_str_bool, kit_str_int, kit_str_str, kit_str_list, kit_str_tuple, kit_str_dict, kit_list_bool, kit_list_int, kit_list_str, kit_list_list, kit_list_tuple, kit_list_dict, kit_tuple_bool, kit_tuple_int, kit_tuple_str, kit_tuple_list, kit_tuple_tuple, kit_tuple_dict, kit_dict_bool, kit_dict_int, kit_dict_str, kit_dict_list, kit_dict_tuple, kit_dict_dict, 
  List.getElem?_cons_zero, List.getElem?_cons_succ, List.set_cons_zero, List.set_cons_succ, List.length_cons, List.length_nil, List.set_set, List.getElem?_set_self, Nat.zero_le, okD_nil, okD_str, okD_int, okD_bl, okD_non, ea0, at0, at1, at2, at3, ix0, ix1, ix2, true_and, and_true, Bool.false_eq_true, Bool.not_true, Bool.not_false, ↓reduceIte, *])

theorem views_same {one other : List Exch} {ss : List Str} (h1 : ∀ e ∈ one, e.1 ∈ ss ∧ e.2.1 ∈ ss) (h2 : ∀ e ∈ other, e.1 ∈ ss ∧ e.2.1 ∈ ss) : (∀ h ∈ ss, viewM h one = viewM h other) ↔ SameV one other := by
  constructor
  · intro h k
    by_cases hk : k ∈ ss
    · exact h k hk
    · have non : ∀ es : List Exch, (∀ e ∈ es, e.1 ∈ ss ∧ e.2.1 ∈ ss) → viewM k es = [] := fun es he => List.filter_eq_nil_iff.mpr fun e hm => by
        unfold hasH
        rw [Bool.or_eq_true, beq_iff_eq, beq_iff_eq]
        rintro (x | x)
        · exact hk (x ▸ (he e hm).1)
        · exact hk (x ▸ (he e hm).2)
      rw [non _ h1, non _ h2]
  · intro h k _
    exact h k
theorem okE_bl (b : Bool) : okE (.bl b) := by cases b <;> exact ⟨rfl, by decide⟩
theorem py_es (x : List Exch) : py (esD x) = pL x := by
  show PyData.list (pyAll (x.map exD)) = pL x
  rw [pyAll_ex]; rfl
theorem okE_es (x : List Exch) : okE (esD x) := by
  unfold okE
  rw [py_es]
  refine ⟨?_, ?_⟩
  · show (PyData.list (x.map pE)).plain = true
    rw [PyData.plain, plainAll_iff]
    intro d hd
    obtain ⟨e, _, rfl⟩ := List.mem_map.mp hd
    exact (okE_ex e).1
  · have : PyData.depthAll (x.map pE) ≤ 10 := depthAll_le fun d hd => by
      obtain ⟨e, _, rfl⟩ := List.mem_map.mp hd
      show (1 : Nat) ≤ 10; decide
    show (PyData.list (x.map pE)).depth ≤ 58
    rw [PyData.depth]
    omega
theorem pyAll_es (F : List (List Exch)) : pyAll (F.map esD) = F.map pL := by
  rw [pyAll_map, List.map_map]
  exact List.map_congr_left fun x _ => py_es x
theorem eqD_ess (F G : List (List Exch)) : eqD (.lst (F.map esD)) (.lst (G.map esD)) = decide (F = G) := by
  unfold eqD
  simp only [py, pyAll_es]
  exact Ly.eqv_list pL (fun a b => by rw [← py_es, ← py_es]; exact eqD_es a b) F G
theorem okD_ess (F : List (List Exch)) : okD (.lst (F.map esD)) = true := okD_lst fun d hd => by
  obtain ⟨x, _, rfl⟩ := List.mem_map.mp hd
  exact okE_es x
theorem ess_ok (F : List (List Exch)) : PyData.plainAll (pyAll (F.map esD)) = true ∧ AlikeAll (pyAll (F.map esD)) ∧ PyData.depthAll (pyAll (F.map esD)) ≤ 60 := by
  rw [pyAll_map]
  refine ⟨plainAll_iff.mpr fun d hd => ?_, ⟨fun x hx y hy => ?_, fun x hx => ?_⟩, Nat.le_trans (depthAll_le fun d hd => ?_) (by decide : 58 ≤ 60)⟩
  · obtain ⟨e, he, rfl⟩ := List.mem_map.mp hd
    obtain ⟨x, _, rfl⟩ := List.mem_map.mp he
    exact (okE_es x).1
  · obtain ⟨p, hp, rfl⟩ := List.mem_map.mp hx
    obtain ⟨q, hq, rfl⟩ := List.mem_map.mp hy
    obtain ⟨a, _, rfl⟩ := List.mem_map.mp hp
    obtain ⟨b, _, rfl⟩ := List.mem_map.mp hq
    rw [py_es, py_es]
    exact pL_alike a b
  · obtain ⟨p, hp, rfl⟩ := List.mem_map.mp hx
    obtain ⟨a, _, rfl⟩ := List.mem_map.mp hp
    rw [py_es]
    exact fun z => nomatch z
  · obtain ⟨e, he, rfl⟩ := List.mem_map.mp hd
    obtain ⟨x, _, rfl⟩ := List.mem_map.mp he
    exact (okE_es x).2
theorem if_tail {c X T : Prop} [Decidable c] (ht : T) (hx : T → c → X) : if c then X else T := by
  split
  · rename_i h; exact hx ht h
  · exact ht
section
variable {P : Program} {w : World} {K : PySem.W.Frag} {mg : Str → Option Value} {base : Heap}
def ab_law_right : XA → ASt := fun ea =>
 (aSeq (aAsg 3 (aLst (aCons (aFz (aCBL bList (rCons (aVar 0) rNil))) (aCons (aFz (aCBL bList (rCons (aVar 1) rNil))) aNil))))
 (aSeq (aAsg 4 (aCall ea0 3 sp_law_views_same (aCons (aVar 0) (aCons (aVar 1) (aCons (aVar 2) aNil)))))
 (aSeq (aAsg 5 (aLst (aCons (aFz (aCall ea0 2 sp_same (aCons (aVar 0) (aCons (aVar 1) aNil)))) (aCons (aFz (aCall ea0 2 sp_same (aCons (aVar 1) (aCons (aVar 0) aNil)))) (aCons (aFz (aCall ea0 2 sp_same (aCons (aVar 0) (aCons (aFz (aCBL bList (rCons (aVar 0) rNil))) aNil)))) aNil)))))
 (aSeq (aIf (aOr (aT (aOp oNe (aVar 5) (aFz (aLst (aCons (aVar 4) (aCons (aVar 4) (aCons (aC (.bl true)) aNil))))))) (aT (aOp oNe (aFz (aLc (aIL (aVar 5)) (.nm 9) (aNot (aT (aIsi (aVar 9) "bool"))) (aVar 9) [9])) (aFz (aLst aNil)))))
 (aRet (aN (aC (.bl false))))
 aNext)
 (aSeq (aAsg 6 (aCall ea0 2 sp_law_all_orders (aCons (aVar 0) (aCons (aC (.int 300)) aNil))))
 (aSeq (aIf (aAnd (aT (aOp oLt (aCB bLen (rCons (aVar 6) rNil)) (aC (.int 300)))) (aOr (aT (aOp oNe (aOp (oIn false) (aVar 1) (aVar 6)) (aVar 4))) (aT (aOp oNe (aCB bMin (rCons (aVar 6) rNil)) (aFz (aCall ea0 1 sp_first_order (aCons (aVar 0) aNil)))))))
 (aRet (aN (aC (.bl false))))
 aNext)
 (aSeq (aFor (aIR1 (rCons (aC (.int 2)) rNil)) (.nm 7)
 (aSeq (aAsg 8 (aCall ea0 1 sp_first_order (aCons (aVar 0) aNil)))
 (aSeq (aIf (aOr (aNot (aT (aIsi (aVar 8) "list"))) (aOr (aT (aOp oNe (aVar 8) (aFz (aCall ea0 1 sp_law_earliest (aCons (aVar 0) aNil))))) (aT (aOp oNe (aOp oEq (aVar 8) (aFz (aCall ea0 1 sp_first_order (aCons (aVar 1) aNil)))) (aVar 4)))))
 (aRet (aN (aC (.bl false))))
 aNext)
 (aDrop (aBM mAppend (aVar 8) (aCons (aC .non) aNil))))))
 (aRet (aN (aOp oEq (aFz (aLst (aCons (aVar 0) (aCons (aVar 1) aNil)))) (aVar 3)))))))))))
theorem go_law_right {w0 w1 w2 : W} {st : List Cell} {A : Zi.N → List Cell → Prop} {Ea : XA} (h : ab_law_right Ea ⟨fun s => A (.w (.d .non)) s.st, A, fun _ => False, fun _ => False⟩ ⟨[.v w0, .v w1, .v w2, .no, .no, .no, .no, .no, .no, .no], st⟩) : aFn 10 ab_law_right [w0, w1, w2] st A Ea := h
def sp_law_right : ASp := fun ws st A _ => ∃ (one other : List Exch) (ss : List Str), ws = [.d (.lst (one.map exD)), .d (.lst (other.map exD)), .d (.lst (ss.map D.str))] ∧ one.length ≤ 10 ∧ other.length ≤ 20 ∧ (∀ e ∈ one, e.1 ∈ ss ∧ e.2.1 ∈ ss) ∧ (∀ e ∈ other, e.1 ∈ ss ∧ e.2.1 ∈ ss) ∧ A (.w (.d (.bl true))) st
theorem red_law_right (ws st A Ea) (_ : ws.length = 3) (h : sp_law_right ws st A Ea) : aFn 10 ab_law_right ws st A Ea := by
  obtain ⟨one, other, ss, rfl, l1, l2, h1, h2, q⟩ := h
  have hv := views_same h1 h2
  clear h1 h2
  refine go_law_right ?_
  unfold ab_law_right
  have big : (10000 : Nat) < sizeLine := by decide
  walk_at "z"
  refine ⟨by omega, one, other, ss, rfl, by omega, by omega, fun r hr => ?_⟩
  have hr' : r = true ↔ SameV one other := hr.trans hv
  clear hr hv
  walk_at "z"
  refine ⟨one, other, rfl, by omega, by omega, fun r1 hr1 => ?_⟩
  obtain rfl : r1 = r := Bool.eq_iff_iff.mpr (hr1.trans hr'.symm)
  clear hr1
  walk_at "z"
  refine ⟨other, one, rfl, by omega, by omega, fun r2 hr2 => ?_⟩
  obtain rfl : r2 = r1 := Bool.eq_iff_iff.mpr ((hr2.trans ⟨SameV.symm, SameV.symm⟩).trans hr'.symm)
  clear hr2
  walk_at "z"
  refine ⟨one, one, rfl, by omega, by omega, fun r3 hr3 => ?_⟩
  obtain rfl : r3 = true := hr3.mpr (SameV.refl one)
  clear hr3
  walk_at "z"
  have oks : okD (.lst [.bl r2, .bl r2, .bl true]) = true := okD_lst fun d hd => by
    simp only [List.mem_cons, List.not_mem_nil, or_false] at hd
    rcases hd with rfl | rfl | rfl <;> exact okE_bl _
  have eqs : eqD (.lst [.bl r2, .bl r2, .bl true]) (.lst [.bl r2, .bl r2, .bl true]) = true := by cases r2 <;> rfl
  rw [eqs]
  refine ⟨by omega, by omega, oks, oks, ?_⟩
  clear oks eqs
  walk_at "z"
  refine lcGo_ty D.bl (fun _ => false) D.bl [r2, r2, true] (by simp) (fun y _ => ⟨_, rfl, rfl, fun A hA => ?_, fun h => by cases h⟩) ?_
  · simp only [List.set_cons_succ, List.set_cons_zero] at hA ⊢
    walk_at "z"
  have e1 : eqD (.lst []) (.lst []) = true := rfl
  rw [show (List.filter (fun _ => false) [r2, r2, true]) = [] from rfl, List.map_nil]
  walk_at "z"
  clear e1
  refine ⟨one, rfl, by omega, fun F f1 f2 f3 f4 => ?_⟩
  cases F with
  | nil => cases f1
  | cons x0 xs =>
  have ie : inD (esD other) ((x0 :: xs).map esD) = decide (other ∈ x0 :: xs) := inD_es _ _
  have ae := all_es (x0 :: xs)
  have oe : okD (esD other) = true := okD_exs _
  rw [List.map_cons] at ie ae
  unfold esD at ie oe
  rw [List.map_cons]
  walk_at "z"
  clear ie ae oe
  refine if_tail ⟨⟨by decide, by decide⟩, ?_⟩ fun tail c1 => ?_
  · unfold forG upto
    rw [show Int.toNat 2 = 2 from rfl]
    refine forGo_ty _ (fun pre ys s => ∃ y7 y8, s = ⟨[.v (.d (.lst (one.map exD))), .v (.d (.lst (other.map exD))), .v (.d (.lst (ss.map D.str))), .own (.lst [.lst (one.map exD), .lst (other.map exD)]), .v (.d (.bl r2)), .v (.d (.lst [.bl r2, .bl r2, .bl true])), .own (.lst (esD x0 :: xs.map esD)), y7, y8, .no], st⟩) _ ?_ ?_ _ ⟨_, _, rfl⟩
    · rintro s ⟨y7, y8, rfl⟩
      walk_at "z"
      have e1 : eqD (.lst [.lst (one.map exD), .lst (other.map exD)]) (.lst [.lst (one.map exD), .lst (other.map exD)]) = true := (eqD_ess [one, other] [one, other]).trans (decide_eq_true rfl)
      have e2 : okD (.lst [.lst (one.map exD), .lst (other.map exD)]) = true := okD_ess [one, other]
      walk_at "z"
      omega
    · rintro pre x ys s k e1 hk ⟨y7, y8, rfl⟩
      clear e1
      walk_at "z"
      refine ⟨one, rfl, by omega, fun o ho => ?_⟩
      walk_at "z"
      refine ⟨one, rfl, by omega, fun o' ho' => ?_⟩
      obtain rfl : o' = o := Greedy.uniq ho' ho (SameV.refl _)
      have e1 : eqD (.lst (o'.map exD)) (.lst (o'.map exD)) = true := (eqD_exs o' o').trans (decide_eq_true rfl)
      have e2 : okD (.lst (o'.map exD)) = true := okD_exs o'
      walk_at "z"
      clear e1
      refine ⟨other, rfl, by omega, fun o2 ho2 => ?_⟩
      have e3 : eqD (.lst (o'.map exD)) (.lst (o2.map exD)) = r2 := by
        rw [eqD_exs, Bool.eq_iff_iff, decide_eq_true_eq, hr']
        exact ⟨fun e => (Greedy.same ho).trans (e ▸ (Greedy.same ho2).symm), fun v => Greedy.uniq ho ho2 v⟩
      have e4 : okD (.lst (o2.map exD)) = true := okD_exs o2
      have e5 : eqD (.bl r2) (.bl r2) = true := by cases r2 <;> rfl
      have e6 : o'.length = one.length := (SameV.reach ho.same).len
      walk_at "z"
      exact ⟨by rw [List.length_map]; omega, hk _ ⟨_, _, rfl⟩⟩
  · have c2 : (x0 :: xs).length < 300 := by
      have := of_decide_eq_true c1
      rw [List.length_map] at this
      rw [List.length_cons]
      omega
    clear c1
    have im : inD (.lst (other.map exD)) (esD x0 :: xs.map esD) = r2 := by
      rw [show inD (.lst (other.map exD)) (esD x0 :: xs.map esD) = decide (other ∈ x0 :: xs) from inD_es other (x0 :: xs), Bool.eq_iff_iff, decide_eq_true_eq, hr']
      exact ⟨fun h => (f2 _ h).same, fun h => f3 c2 _ (SameV.reach h)⟩
    rw [im, show eqD (.bl r2) (.bl r2) = true by cases r2 <;> rfl, if_neg (by decide)]
    have ok := ess_ok (x0 :: xs)
    refine ⟨ok.1, ok.2.1, ok.2.2, fun i z hz hm => ?_⟩
    rw [← List.map_cons] at hz
    obtain ⟨x, hx, rfl⟩ := List.mem_map.mp (List.mem_of_getElem? hz)
    have least : ∀ y ∈ x0 :: xs, llt y x = false := fun y hy => by
      unfold llt
      rw [← py_es, ← py_es, hm]
      refine minD_le _ _ _ ?_
      rcases List.mem_cons.mp hy with rfl | hy
      · exact .inl rfl
      · exact .inr (by rw [pyAll_map]; exact List.mem_map_of_mem (List.mem_map_of_mem hy))
    refine ⟨one, rfl, by omega, fun o ho => ?_⟩
    obtain rfl : x = o := (ho.least x (f2 x hx).same).resolve_right fun h => by
      rw [least o (f3 c2 _ (SameV.reach ho.same))] at h
      cases h
    have e1 : eqD (esD x) (.lst (x.map exD)) = true := (eqD_es x x).trans (decide_eq_true rfl)
    have e2 : okD (esD x) = true := okD_exs x
    have e3 : okD (.lst (x.map exD)) = true := okD_exs x
    clear least hm hz im ok f1 f2 f3 ho hr'
    walk_at "z"
theorem ok_law_right (T : Top K mg) : FnOk P w K mg base CX0 3 T.a_law_right T.fd_law_right ["_law_one", "_law_other", "_law_people"] (SpA 3 sp_law_right) := by
  refine T.F_law_right.ok sc_law_right (fun vs H Q E h => SpA.len h) (fun cdv A outer s H vs Q E hr h => ?_)
  refine ⟨_, (pss_cons (ps_set (i := 3) sc_law_right.nd rfl (Or.inl rfl) (pe_lst (pa_cons (pe_callTy (call_listK K rfl) (by rfl) T.z_list (by decide +kernel) (pa_cons (pv 0) pa_nil)) (pa_cons (pe_callTy (call_listK K rfl) (by rfl) T.z_list (by decide +kernel) (pa_cons (pv 1) pa_nil)) pa_nil))))
 (pss_cons (ps_set (i := 4) sc_law_right.nd rfl (Or.inl rfl) (pe_call (ok_law_views_same T) (hr.mono (by decide)) (by rfl) T.g_law_views_same T.F_law_views_same.kp T.b_law_views_same .nil pass0 (pa_cons (pv 0) (pa_cons (pv 1) (pa_cons (pv 2) pa_nil)))))
 (pss_cons (ps_set (i := 5) sc_law_right.nd rfl (Or.inl rfl) (pe_lst (pa_cons (pe_call (ok_same T) (hr.mono (by decide)) (by rfl) T.g_same T.F_same.kp T.b_same .nil pass0 (pa_cons (pv 0) (pa_cons (pv 1) pa_nil))) (pa_cons (pe_call (ok_same T) (hr.mono (by decide)) (by rfl) T.g_same T.F_same.kp T.b_same .nil pass0 (pa_cons (pv 1) (pa_cons (pv 0) pa_nil))) (pa_cons (pe_call (ok_same T) (hr.mono (by decide)) (by rfl) T.g_same T.F_same.kp T.b_same .nil pass0 (pa_cons (pv 0) (pa_cons (pe_callTy (call_listK K rfl) (by rfl) T.z_list (by decide +kernel) (pa_cons (pv 0) pa_nil)) pa_nil))) pa_nil)))))
 (pss_cons (ps_if (PW.pt (pw_or (pt_cmpR (op_neQ hr.units) (pv 5) (pe_lst (pa_cons (pv 4) (pa_cons (pv 4) (pa_cons pe_bl pa_nil)))) (nomark _)) (pw_or1 (pt_cmpR (op_neQ hr.units) (pe_lc (own := [("_law_truth", 9)]) (g := gName 9) (tt := _) rfl sc_law_right.nd (pi_listK K rfl (pv 5)) (blkOk_by (own := [("_law_truth", 9)]) (N := ["_law_one", "_law_other", "_law_people", "_law_stayed", "_law_due", "_law_told", "_law_orders", "_law_turn", "_law_found", "_law_truth"]) (sc := defScope s_law_right) (by decide +kernel)) (fun _ _ _ _ _ => (pg_name (i := 9) sc_law_right.nd rfl (Or.inl rfl))) (fun _ _ _ _ _ => pts_one (pt_not (pt_val (pe_callB (call_isiK' K rfl) (by rfl) T.z_isinstance (by decide +kernel) (pa_cons (pv 9) (pa_cons (pe_bltn (v := .ty "bool") (by rfl) T.z_bool boot_bool rfl) pa_nil)))))) (fun _ _ _ _ _ => (pv 9))) (pe_lst pa_nil) (nomark _))))) (pss_one (ps_ret pe_bl)) pss_nil)
 (pss_cons (ps_set (i := 6) sc_law_right.nd rfl (Or.inl rfl) (pe_call (ok_law_all_orders T) (hr.mono (by decide)) (by rfl) T.g_law_all_orders T.F_law_all_orders.kp T.b_law_all_orders .nil pass0 (pa_cons (pv 0) (pa_cons pe_int pa_nil))))
 (pss_cons (ps_if (PW.pt (pw_and (pt_cmpR op_lt (pe_callB (call_lenK K rfl) (by rfl) T.z_len (by decide +kernel) (pa_cons (pv 6) pa_nil)) pe_int (nomark _)) (pw_and1 (PW.pt (pw_or (pt_cmpR (op_neQ hr.units) (pe_cmpR (op_inQ hr.units) (pv 1) (pv 6) (by rfl)) (pv 4) (nomark _)) (pw_or1 (pt_cmpR (op_neQ hr.units) (pe_callB (cr_minD rfl hr.units) (by rfl) T.z_min (by decide +kernel) (pa_cons (pv 6) pa_nil)) (pe_call (ok_first_order T) (hr.mono (by decide)) (by rfl) T.g_first_order T.F_first_order.kp T.b_first_order .nil pass0 (pa_cons (pv 0) pa_nil)) (nomark _)))))))) (pss_one (ps_ret pe_bl)) pss_nil)
 (pss_cons (ps_for PassesOwn.never rfl (pi_range1 rfl T.z_range (pa_cons pe_int pa_nil)) (pg_name (i := 7) sc_law_right.nd rfl (Or.inl rfl)) (pss_cons (ps_set (i := 8) sc_law_right.nd rfl (Or.inl rfl) (pe_call (ok_first_order T) (hr.mono (by decide)) (by rfl) T.g_first_order T.F_first_order.kp T.b_first_order .nil pass0 (pa_cons (pv 0) pa_nil)))
 (pss_cons (ps_if (PW.pt (pw_or (pt_not (pt_val (pe_callB (call_isiK' K rfl) (by rfl) T.z_isinstance (by decide +kernel) (pa_cons (pv 8) (pa_cons (pe_bltn (v := .ty "list") (by rfl) T.z_list boot_list rfl) pa_nil))))) (pw_or (pt_cmpR (op_neQ hr.units) (pv 8) (pe_call (ok_law_earliest T) (hr.mono (by decide)) (by rfl) T.g_law_earliest T.F_law_earliest.kp T.b_law_earliest .nil pass0 (pa_cons (pv 0) pa_nil)) (nomark _)) (pw_or1 (pt_cmpR (op_neQ hr.units) (pe_cmpR (op_eqQ hr.units) (pv 8) (pe_call (ok_first_order T) (hr.mono (by decide)) (by rfl) T.g_first_order T.F_first_order.kp T.b_first_order .nil pass0 (pa_cons (pv 1) pa_nil)) (nomark _)) (pv 4) (nomark _)))))) (pss_one (ps_ret pe_bl)) pss_nil)
 (pss_one (ps_expr (bmK K rfl (pe_bm PySem.F.plainAttrs_list PySem.F.slot_list_append PySem.F.type_list_append mt_append (pv 8) (pa_cons pe_non pa_nil))))))))
 (pss_one (ps_ret (pe_cmpR (op_eqQ hr.units) (pe_lst (pa_cons (pv 0) (pa_cons (pv 1) pa_nil))) (pv 3) (nomark _))))))))))), fn_read (N := ["_law_one", "_law_other", "_law_people", "_law_stayed", "_law_due", "_law_told", "_law_orders", "_law_turn", "_law_found", "_law_truth"]) (ab := ab_law_right) (fun ea => ?_) red_law_right h⟩
  unfold ab_law_right
  exact (RS.seq (RS.asg (RN.lst (RA.cons (RE.fz (RN.cb bList_ok (RR.cons RE.var RR.nil))) (RA.cons (RE.fz (RN.cb bList_ok (RR.cons RE.var RR.nil))) RA.nil))))
 (RS.seq (RS.asg (RN.call0 (asp := sp_law_views_same) (RA.cons RE.var (RA.cons RE.var (RA.cons RE.var RA.nil)))))
 (RS.seq (RS.asg (RN.lst (RA.cons (RE.fz (RN.call0 (asp := sp_same) (RA.cons RE.var (RA.cons RE.var RA.nil)))) (RA.cons (RE.fz (RN.call0 (asp := sp_same) (RA.cons RE.var (RA.cons RE.var RA.nil)))) (RA.cons (RE.fz (RN.call0 (asp := sp_same) (RA.cons RE.var (RA.cons (RE.fz (RN.cb bList_ok (RR.cons RE.var RR.nil))) RA.nil)))) RA.nil)))))
 (RS.seq (RS.ifs (RT.or (RT.test (RE.op oNe_ok RE.var (RE.fz (RN.lst (RA.cons RE.var (RA.cons RE.var (RA.cons RE.bl RA.nil))))))) (RT.test (RE.op oNe_ok (RE.fz (RN.lc (RI.list RE.var) RG.nm (RT.not (RT.b (RE.isi (by decide +kernel) RE.var))) RE.var (by decide))) (RE.fz (RN.lst RA.nil)))))
 (RS.ret (RN.of RE.bl))
 RS.next)
 (RS.seq (RS.asg (RN.call0 (asp := sp_law_all_orders) (RA.cons RE.var (RA.cons RE.int RA.nil))))
 (RS.seq (RS.ifs (RT.and (RT.test (RE.op oLt_ok (RE.cb bLen_ok (RR.cons RE.var RR.nil)) RE.int)) (RT.or (RT.test (RE.op oNe_ok (RE.op oIn_ok RE.var RE.var) RE.var)) (RT.test (RE.op oNe_ok (RE.cb bMin_ok (RR.cons RE.var RR.nil)) (RE.fz (RN.call0 (asp := sp_first_order) (RA.cons RE.var RA.nil)))))))
 (RS.ret (RN.of RE.bl))
 RS.next)
 (RS.seq (RS.for (RI.rng1 (RR.cons RE.int RR.nil)) RG.nm
 (RS.seq (RS.asg (RN.call0 (asp := sp_first_order) (RA.cons RE.var RA.nil)))
 (RS.seq (RS.ifs (RT.or (RT.not (RT.b (RE.isi (by decide +kernel) RE.var))) (RT.or (RT.test (RE.op oNe_ok RE.var (RE.fz (RN.call0 (asp := sp_law_earliest) (RA.cons RE.var RA.nil))))) (RT.test (RE.op oNe_ok (RE.op oEq_ok RE.var (RE.fz (RN.call0 (asp := sp_first_order) (RA.cons RE.var RA.nil)))) RE.var))))
 (RS.ret (RN.of RE.bl))
 RS.next)
 (RS.drop (RE.bm mAppend_ok RE.var (RA.cons RE.non RA.nil))))))
 (RS.ret (RN.of (RE.op oEq_ok (RE.fz (RN.lst (RA.cons RE.var (RA.cons RE.var RA.nil)))) RE.var))))))))))
end
end K06

set_option Elab.async false
set_option linter.all false
set_option maxRecDepth 100000
set_option maxHeartbeats 400000
namespace K06
open PySem PySem.Spec PyProof.Rows L2 Ly Zi Zs Lc
open PySem.W (minD AlikeAll)
local macro_rules | `(tactic| walk_at "z") => `(tactic| simp (config := { dsimp := false }) only [aSeq, aIf, aT, aYes, aAnd, aOr, aNot, aOp, aOpL, aUn, aVar, aC, aRaw, aMove, pk, q_peek_w, q_peek_s, q_peekW_d, q_peekW_loc, q_cellD_lst, q_cellD_dic, ↓q_toW_w, q_toW_w, ↓q_toW_s, q_toW_s, ↓q_toL_w, q_toL_w, ↓q_toL_s, q_toL_s, ↓q_nToW_w, q_nToW_w, ↓q_nToW_lst, q_nToW_lst, ↓q_nToW_dic, q_nToW_dic, q_put_w, q_put_n, q_getC_loc, q_getC_s, q_putC_loc, q_putC_s, aFz, aN, aAsg, aAsgT, q_bind_nm, q_bind_tp, q_binds_nil, q_binds_cons, aRet, aRetN, aDrop, aDropN, aNext, aBreak, aCont, aAug, aSetIx, aDPut, aCall, aCons, aConsL, aNil, aLst, aTup, lstC, wsD, rCons, rNil, pks, aCB, aCBL, aBM, aBM0, isL, mAppend, mPop, mPopAt,
  aSlL, aSlT, aRevL, aNo, aSome, aAndV, aOrV, aNotV, aIfE, aChain, aDIn, aDGet, aDNew, withDic, Zi.keyOf, cut2, part32, eqD_str, inD2, all_str2, aFor, aForE, comesBack, aLc, aSortSet, aPutS, aCl, aIL, aIT, aIR1, aIR2, aIE, aIZ, aIS, wipeE, backE,
  oAdd, oSub, oMul, oMulW, oMod, oDiv, oDivW, oPow, oLt, oLe, oGt, oGe, oI, oIc, oEq, oNe, oIn, oIx, oCat, oAddS, oInS, oIs, oIsNot, oIsB, oIsNB, isNon, oNeg, oBits, bLen, bList, bMax2, bMin2, bMin, aIsi, aSetSl, tyN, kit_NoneType_bool, kit_NoneType_int, kit_NoneType_str, kit_NoneType_list, kit_NoneType_tuple, kit_NoneType_dict, kit_bool_bool, kit_bool_int, kit_bool_str, kit_bool_list, kit_bool_tuple, kit_bool_dict, kit_int_bool, kit_int_int, kit_int_str, kit_int_list, kit_int_tuple, kit_int_dict, kit_str_bool, kit_str_int, kit_str_str, kit_str_list, kit_str_tuple, kit_str_dict, kit_list_bool, kit_list_int, kit_list_str, kit_list_list, kit_list_tuple, kit_list_dict, kit_tuple_bool, kit_tuple_int, kit_tuple_str, kit_tuple_list, kit_tuple_tuple, kit_tuple_dict, kit_dict_bool, kit_dict_int, kit_dict_str, kit_dict_list, kit_dict_tuple, kit_dict_dict, 
  List.getElem?_cons_zero, List.getElem?_cons_succ, List.set_cons_zero, List.set_cons_succ, List.length_cons, List.length_nil, List.set_set, List.getElem?_set_self, Nat.zero_le, okD_nil, okD_str, okD_int, okD_bl, okD_non, ea0, at0, at1, at2, at3, ix0, ix1, ix2, true_and, and_true, Bool.false_eq_true, Bool.not_true, Bool.not_false, ↓reduceIte, *])
local macro_rules | `(tactic| walk_at "y") => `(tactic| simp only [aSeq, aIf, aT, aYes, aAnd, aOr, aNot, aOp, aOpL, aUn, aVar, aC, aRaw, aMove, pk, q_peek_w, q_peek_s, q_peekW_d, q_peekW_loc, q_cellD_lst, q_cellD_dic, ↓q_toW_w, q_toW_w, ↓q_toW_s, q_toW_s, ↓q_toL_w, q_toL_w, ↓q_toL_s, q_toL_s, ↓q_nToW_w, q_nToW_w, ↓q_nToW_lst, q_nToW_lst, ↓q_nToW_dic, q_nToW_dic, q_put_w, q_put_n, q_getC_loc, q_getC_s, q_putC_loc, q_putC_s, aFz, aN, aAsg, aAsgT, q_bind_nm, q_bind_tp, q_binds_nil, q_binds_cons, aRet, aRetN, aDrop, aDropN, aNext, aBreak, aCont, aAug, aSetIx, aDPut, aCall, aCons, aConsL, aNil, aLst, aTup, lstC, wsD, rCons, rNil, pks, aCB, aCBL, aBM, aBM0, isL, mAppend, mPop, mPopAt,
  aSlL, aSlT, aRevL, aNo, aSome, aAndV, aOrV, aNotV, aIfE, aChain, aDIn, aDGet, aDNew, withDic, Zi.keyOf, cut2, part32, eqD_str, inD2, all_str2, aFor, aForE, comesBack, aLc, aSortSet, aPutS, aCl, aIL, aIT, aIR1, aIR2, aIE, aIZ, aIS, wipeE, backE,
  oAdd, oSub, oMul, oMulW, oMod, oDiv, oDivW, oPow, oLt, oLe, oGt, oGe, oI, oIc, oEq, oNe, oIn, oIx, oCat, oAddS, oInS, oIs, oIsNot, oIsB, oIsNB, isNon, oNeg, oBits, bLen, bList, bMax2, bMin2, bMin, aIsi, aSetSl, tyN, kit_NoneType_bool, kit_NoneType_int, kit_NoneType_str, kit_NoneType_list, kit_NoneType_tuple, kit_NoneType_dict, kit_bool_bool, kit_bool_int, kit_bool_str, kit_bool_list, kit_bool_tuple, kit_bool_dict, kit_int_bool, kit_int_int, kit_int_str, kit_int_list, kit_int_tuple, kit_int_dict, kit_str_bool, kit_str_int, kit_str_str, kit_str_list, kit_str_tuple, kit_str_dict, kit_list_bool, kit_list_int, kit_list_str, kit_list_list, kit_list_tuple, kit_list_dict, kit_tuple_bool, kit_tuple_int, kit_tuple_str, kit_tuple_list, kit_tuple_tuple, kit_tuple_dict, kit_dict_bool, kit_dict_int, kit_dict_str, kit_dict_list, kit_dict_tuple, kit_dict_dict, 
  List.getElem?_cons_zero, List.getElem?_cons_succ, List.set_cons_zero, List.set_cons_succ, List.length_cons, List.length_nil, List.set_set, List.getElem?_set_self, Nat.zero_le, okD_nil, okD_str, okD_int, okD_bl, okD_non, ea0, at0, at1, at2, at3, ix0, ix1, ix2, true_and, and_true, Bool.false_eq_true, Bool.not_true, Bool.not_false, ↓reduceIte, *])

section
variable {P : Program} {w : World} {K : PySem.W.Frag} {mg : Str → Option Value} {base : Heap}
def ab_law (K : PySem.W.Frag) : XA → ASt := fun ea =>
 (aSeq (aFor (aIR1 (rCons (aC (.int 6)) rNil)) (.nm 1)
 (aSeq (aAsg 2 (aCall ea0 2 (sp_law_purse K) (aCons (aVar 0) (aCons (aVar 1) aNil))))
 (aSeq (aAsg 3 (aCall ea0 2 sp_law_names (aConsL (aVar 2) (aCons (aOp oAdd (aC (.int 2)) (aFz (aCall ea0 2 sp_law_draw (aConsL (aVar 2) (aCons (aC (.int 5)) aNil))))) aNil))))
 (aSeq (aAsg 4 (aLc (aIR1 (rCons (aFz (aCall ea0 2 sp_law_draw (aConsL (aVar 2) (aCons (aC (.int 10)) aNil)))) rNil)) (.nm 8) aYes (aFz (aCall ea0 2 sp_law_exchange (aConsL (aVar 2) (aCons (aVar 3) aNil)))) [8]))
 (aSeq (aFor (aIR1 (rCons (aC (.int 3)) rNil)) (.nm 5)
 (aIf (aNot (aT (aFz (aCall ea0 3 sp_law_right (aCons (aVar 4) (aCons (aFz (aCall ea0 3 sp_law_second (aConsL (aVar 2) (aCons (aVar 4) (aCons (aVar 3) aNil))))) (aCons (aVar 3) aNil)))))))
 (aRet (aN (aC (.bl false))))
 aNext))
 (aSeq (aAsg 6 (aCall ea0 2 sp_law_exchange (aConsL (aVar 2) (aCons (aVar 3) aNil))))
 (aSeq (aAsg 7 (aCall ea0 2 sp_law_exchange (aConsL (aVar 2) (aCons (aVar 3) aNil))))
 (aSeq (aIf (aOr (aT (aOp oNe (aFz (aCall ea0 2 sp_strangers (aCons (aVar 6) (aCons (aVar 7) aNil)))) (aFz (aCall ea0 2 sp_law_apart (aCons (aVar 6) (aCons (aVar 7) aNil)))))) (aNot (aT (aIsi (aFz (aCall ea0 2 sp_strangers (aCons (aVar 6) (aCons (aVar 7) aNil)))) "bool"))))
 (aRet (aN (aC (.bl false))))
 aNext)
 (aIf (aOr (aT (aOp oNe (aFz (aCall ea0 2 sp_strangers (aCons (aVar 7) (aCons (aVar 6) aNil)))) (aFz (aCall ea0 2 sp_law_apart (aCons (aVar 6) (aCons (aVar 7) aNil)))))) (aT (aOp oIsNB (aFz (aCall ea0 2 sp_strangers (aCons (aVar 6) (aCons (aVar 6) aNil)))) (aC (.bl false)))))
 (aRet (aN (aC (.bl false))))
 aNext)))))))))
 (aRet (aN (aAndV (aOp oIsB (aFz (aCall ea0 2 sp_same (aCons (aFz (aLst aNil)) (aCons (aFz (aLst aNil)) aNil)))) (aC (.bl true))) (aOp oEq (aFz (aCall ea0 1 sp_first_order (aCons (aFz (aLst aNil)) aNil))) (aFz (aLst aNil)))))))
theorem go_law {K : PySem.W.Frag} {w0 : W} {st : List Cell} {A : Zi.N → List Cell → Prop} {Ea : XA} (h : (ab_law K) Ea ⟨fun s => A (.w (.d .non)) s.st, A, fun _ => False, fun _ => False⟩ ⟨[.v w0, .no, .no, .no, .no, .no, .no, .no, .no], st⟩) : aFn 9 (ab_law K) [w0] st A Ea := h
def sp_law (K : PySem.W.Frag) : ASp := fun ws st A _ => ∃ (a : Addr) (φ : Hp → Prop) (ns : List Int), ws = [.raw (.ref a) φ] ∧ (∀ F, φ F → SqL K F a (ns.map V.int)) ∧ ∀ st', A (.w (.d (.bl true))) st'
theorem red_law (ws st A Ea) (_ : ws.length = 1) (h : sp_law K ws st A Ea) : aFn 9 (ab_law K) ws st A Ea := by
  obtain ⟨a, φ, ns, rfl, hφ, q⟩ := h
  refine go_law ?_
  unfold ab_law
  have big : (10000 : Nat) < sizeLine := by decide
  walk_at "z"
  refine ⟨⟨by decide, by decide⟩, ?_⟩
  unfold forG upto
  rw [show Int.toNat 6 = 6 from rfl]
  refine forGo_ty _ (fun pre ys s => ∃ y1 y2 y3 y4 y5 y6 y7 st', s = ⟨[.v (.raw (.ref a) φ), y1, y2, y3, y4, y5, y6, y7, .no], st'⟩) _ ?_ ?_ _ ⟨_, _, _, _, _, _, _, _, rfl⟩
  · rintro s ⟨y1, y2, y3, y4, y5, y6, y7, st', rfl⟩
    walk_at "z"
    refine ⟨[], [], rfl, by decide, by decide, fun r hr => ?_⟩
    obtain rfl : r = true := hr.mpr (SameV.refl _)
    clear hr
    walk_at "z"
    refine ⟨[], rfl, by decide, fun o ho => ?_⟩
    cases ho with
    | nil =>
      have e1 : eqD (.lst []) (.lst []) = true := rfl
      rw [List.map_nil]
      walk_at "z"
    | cons hf _ _ => exact nomatch hf.1
  · rintro pre x ys s k e1 hk ⟨y1, y2, y3, y4, y5, y6, y7, st', rfl⟩
    obtain ⟨-, hx⟩ := range_at e1
    clear e1
    walk_at "z"
    refine ⟨a, φ, ns, _, rfl, hφ, by omega, by omega, fun b0 b1 po0 => ?_⟩
    walk_at "z"
    have hS : (st' ++ [Pur b0 b1 (1000 * (0 + (x : Int)))])[st'.length]? = some (Pur b0 b1 (1000 * (0 + (x : Int)))) := by simp
    generalize st' ++ [Pur b0 b1 (1000 * (0 + (x : Int)))] = S at hS ⊢
    generalize st'.length = p at hS ⊢
    have hc : (1000 : Int) * (0 + (x : Int)) ≤ 10000 := by omega
    generalize (1000 : Int) * (0 + (x : Int)) = c at hS hc po0 ⊢
    have hp : p < S.length := (List.getElem?_eq_some_iff.mp hS).1
    refine ⟨p, 5, b0, b1, c, rfl, by decide, by decide, hS, po0, by omega, fun r a1 b1' c1 r0 r1 po1 h1 h2 => ?_⟩
    obtain ⟨m, rfl⟩ := Int.eq_ofNat_of_zero_le r0
    clear hS po0
    walk_at "z"
    refine ⟨p, 2 + m, a1, b1', c1, rfl, by omega, List.getElem?_set_self hp, po1, by omega, fun us a2 b2 c2 hus po2 h3 h4 => ?_⟩
    clear po1
    walk_at "z"
    refine ⟨p, 10, a2, b2, c2, rfl, by decide, by decide, List.getElem?_set_self hp, po2, by omega, fun r' a3 b3 c3 r0' r1' po3 h5 h6 => ?_⟩
    obtain ⟨n, rfl⟩ := Int.eq_ofNat_of_zero_le r0'
    clear po2
    walk_at "z"
    refine ⟨⟨by omega, by omega⟩, ?_⟩
    unfold lcG
    refine lcGo_ind (fun ds s acc => ∃ L y3 a' b' c', s = ⟨[.v (.raw (.ref a) φ), .v (.d (.int (0 + (x : Int)))), .v (.loc p), y3, y4, y5, y6, y7, .no], S.set p (Pur a' b' c')⟩ ∧ (y3 = .own (.lst (us.map D.str)) ∨ y3 = .v (.d (.lst (us.map D.str)))) ∧ acc = L.map exD ∧
      (∀ e ∈ L, e.1 ∈ us ∧ e.2.1 ∈ us) ∧ L.length + ds.length = n ∧ PurOk a' b' c' ∧ c3 ≤ c' ∧ c' ≤ c3 + 22 * L.length) ?_ ?_ _ _ _ ⟨[], _, a3, b3, c3, rfl, .inl rfl, rfl, by simp, by simp [upto], po3, Int.le_refl _, by simp⟩
    · clear po3
      rintro s acc ⟨L, y3, a4, b4, c4, rfl, h3y, rfl, hL, hn, po4, h7, h8⟩
      rw [List.length_nil] at hn
      walk_at "z"
      have hc4 : c4 ≤ 11000 := by omega
      clear h5 h6 h1 h2 h3 h4 hφ q
      refine ⟨⟨by decide, by decide⟩, ?_⟩
      unfold forG upto
      rw [show Int.toNat 3 = 3 from rfl]
      clear h7 h8
      refine forGo_ty _ (fun pre ys s => ∃ y3 y4 y5 a' b' c', s = ⟨[.v (.raw (.ref a) φ), .v (.d (.int (0 + (x : Int)))), .v (.loc p), y3, y4, y5, y6, y7, .no], S.set p (Pur a' b' c')⟩ ∧ (y3 = .own (.lst (us.map D.str)) ∨ y3 = .v (.d (.lst (us.map D.str)))) ∧ (y4 = .own (.lst (L.map exD)) ∨ y4 = .v (.d (.lst (L.map exD)))) ∧
        PurOk a' b' c' ∧ c' ≤ 11000 + 200 * pre.length ∧ pre.length + ys.length = 3) _ ?_ ?_ _ ⟨_, _, _, _, _, _, rfl, h3y, .inl rfl, po4, by simpa using hc4, by simp⟩
      · clear po4
        rintro s ⟨y3', y4, y5, a5, b5, c5, rfl, h3', h4', po5, h1, h2⟩
        rw [List.length_nil] at h2
        rcases h3' with rfl | rfl
        all_goals
          clear h4' h3y
          walk_at "z"
          refine ⟨p, us, a5, b5, c5, rfl, by omega, by omega, List.getElem?_set_self hp, po5, by omega, fun e a6 b6 c6 e1 e2 po6 m3 m4 => ?_⟩
          clear e1 e2 po5
          walk_at "z"
          refine ⟨p, us, a6, b6, c6, rfl, by omega, by omega, List.getElem?_set_self hp, po6, by omega, fun f a7 b7 c7 e1 e2 po7 m5 m6 => ?_⟩
          clear e1 e2 po6
          walk_at "z"
          refine ⟨e, f, rfl, ?_⟩
          walk_at "z"
          refine ⟨e, f, rfl, ?_⟩
          have q1 : eqD (.bl (apart e f)) (.bl (apart e f)) = true := by cases apart e f <;> rfl
          walk_at "z"
          refine ⟨e, f, rfl, ?_⟩
          walk_at "z"
          refine ⟨f, e, rfl, ?_⟩
          walk_at "z"
          refine ⟨e, f, rfl, ?_⟩
          have q2 := apart_comm f e
          walk_at "z"
          refine ⟨e, e, rfl, ?_⟩
          have q3 := apart_self e
          clear q2
          walk_at "z"
          exact hk _ ⟨_, _, _, _, _, _, _, _, rfl⟩
      · clear po4
        rintro pre' x' ys' s k' e1 hk' ⟨y3', y4, y5, a5, b5, c5, rfl, h3', h4', po5, h1, h2⟩
        clear e1 hk
        rw [List.length_cons] at h2
        rcases h3' with rfl | rfl <;> rcases h4' with rfl | rfl
        all_goals
          walk_at "z"
          refine ⟨p, L, us, a5, b5, c5, rfl, by omega, by omega, by omega, List.getElem?_set_self hp, po5, by omega, hL, fun M a6 b6 c6 m1 m2 po6 m3 m4 => ?_⟩
          walk_at "z"
          refine ⟨L, M, us, rfl, by omega, by omega, hL, m2, ?_⟩
          walk_at "z"
          exact hk' _ ⟨_, _, _, a6, b6, c6, rfl, .inr rfl, .inr rfl, po6, by rw [List.length_append, List.length_singleton]; omega, by rw [List.length_append, List.length_singleton]; omega⟩
    · clear po3
      rintro d ds s acc k' hk' ⟨L, y3, a4, b4, c4, rfl, h3y, rfl, hL, hn, po4, h7, h8⟩
      rw [List.length_cons] at hn
      rcases h3y with rfl | rfl
      all_goals
        walk_at "z"
        refine ⟨p, us, a4, b4, c4, rfl, by omega, by omega, List.getElem?_set_self hp, po4, by omega, fun e a5 b5 c5 e1 e2 po5 h9 h10 => ?_⟩
        walk_at "z"
        refine ⟨by rw [List.length_map]; omega, hk' _ _ ⟨L ++ [e], _, a5, b5, c5, rfl, .inr rfl, by rw [List.map_append]; rfl, fun e' he' => ?_, by rw [List.length_append, List.length_singleton]; omega, po5, by omega, by rw [List.length_append, List.length_singleton]; omega⟩⟩
        rcases List.mem_append.mp he' with h | h
        · exact hL _ h
        · rw [List.mem_singleton.mp h]; exact ⟨e1, e2⟩
theorem ok_law (T : Top K mg) : FnOk P w K mg base CX0 6 T.a_law T.fd_law ["_law_script"] (SpA 1 (sp_law K)) := by
  refine T.F_law.ok sc_law (fun vs H Q E h => SpA.len h) (fun cdv A outer s H vs Q E hr h => ?_)
  refine ⟨_, (pss_cons (ps_for PassesOwn.never rfl (pi_range1 rfl T.z_range (pa_cons pe_int pa_nil)) (pg_name (i := 1) sc_law.nd rfl (Or.inl rfl)) (pss_cons (ps_set (i := 2) sc_law.nd rfl (Or.inr rfl) (pe_call (ok_law_purse T) (hr.mono (by decide)) (by rfl) T.g_law_purse T.F_law_purse.kp T.b_law_purse .nil pass0 (pa_cons (pv 0) (pa_cons (pv 1) pa_nil))))
 (pss_cons (ps_set (i := 3) sc_law.nd rfl (Or.inr rfl) (pe_call (ok_law_names T) (hr.mono (by decide)) (by rfl) T.g_law_names T.F_law_names.kp T.b_law_names .nil pass0 (pa_cons (pv 2) (pa_cons (pe_op op_add pe_int (pe_call (ok_law_draw T) (hr.mono (by decide)) (by rfl) T.g_law_draw T.F_law_draw.kp T.b_law_draw .nil pass0 (pa_cons (pv 2) (pa_cons pe_int pa_nil)))) pa_nil))))
 (pss_cons (ps_setLc (i := 4) (own := [("_law_k", 8)]) (g := gName 8) (tt := tYes) rfl sc_law.nd rfl rfl (sw_true rfl rfl rfl (by decide +kernel)) (pi_range1 rfl T.z_range (pa_cons (pe_call (ok_law_draw T) (hr.mono (by decide)) (by rfl) T.g_law_draw T.F_law_draw.kp T.b_law_draw .nil pass0 (pa_cons (pv 2) (pa_cons pe_int pa_nil))) pa_nil)) (blkOk_by (own := [("_law_k", 8)]) (N := ["_law_script", "_law_cell", "_law_purse_here", "_law_people", "_law_history", "_law_turn", "_law_first", "_law_second_here", "_law_k"]) (sc := defScope s_law) (by decide +kernel)) (fun _ _ _ _ _ => (pg_name (i := 8) sc_law.nd rfl (Or.inl rfl))) (fun _ _ _ _ _ => pts_nil) (fun _ _ _ _ _ => (pe_call (ok_law_exchange T) (hr.mono (by decide)) (by rfl) T.g_law_exchange T.F_law_exchange.kp T.b_law_exchange .nil pass0 (pa_cons (pv 2) (pa_cons (pv 3) pa_nil)))))
 (pss_cons (ps_for PassesOwn.never rfl (pi_range1 rfl T.z_range (pa_cons pe_int pa_nil)) (pg_name (i := 5) sc_law.nd rfl (Or.inl rfl)) (pss_one (ps_if (pt_not (pt_val (pe_call (ok_law_right T) (hr.mono (by decide)) (by rfl) T.g_law_right T.F_law_right.kp T.b_law_right .nil pass0 (pa_cons (pv 4) (pa_cons (pe_call (ok_law_second T) (hr.mono (by decide)) (by rfl) T.g_law_second T.F_law_second.kp T.b_law_second .nil pass0 (pa_cons (pv 2) (pa_cons (pv 4) (pa_cons (pv 3) pa_nil)))) (pa_cons (pv 3) pa_nil)))))) (pss_one (ps_ret pe_bl)) pss_nil)))
 (pss_cons (ps_set (i := 6) sc_law.nd rfl (Or.inl rfl) (pe_call (ok_law_exchange T) (hr.mono (by decide)) (by rfl) T.g_law_exchange T.F_law_exchange.kp T.b_law_exchange .nil pass0 (pa_cons (pv 2) (pa_cons (pv 3) pa_nil))))
 (pss_cons (ps_set (i := 7) sc_law.nd rfl (Or.inl rfl) (pe_call (ok_law_exchange T) (hr.mono (by decide)) (by rfl) T.g_law_exchange T.F_law_exchange.kp T.b_law_exchange .nil pass0 (pa_cons (pv 2) (pa_cons (pv 3) pa_nil))))
 (pss_cons (ps_if (PW.pt (pw_or (pt_cmpR (op_neQ hr.units) (pe_call (ok_strangers T) (hr.mono (by decide)) (by rfl) T.g_strangers T.F_strangers.kp T.b_strangers .nil pass0 (pa_cons (pv 6) (pa_cons (pv 7) pa_nil))) (pe_call (ok_law_apart T) (hr.mono (by decide)) (by rfl) T.g_law_apart T.F_law_apart.kp T.b_law_apart .nil pass0 (pa_cons (pv 6) (pa_cons (pv 7) pa_nil))) (nomark _)) (pw_or1 (pt_not (pt_val (pe_callB (call_isiK' K rfl) (by rfl) T.z_isinstance (by decide +kernel) (pa_cons (pe_call (ok_strangers T) (hr.mono (by decide)) (by rfl) T.g_strangers T.F_strangers.kp T.b_strangers .nil pass0 (pa_cons (pv 6) (pa_cons (pv 7) pa_nil))) (pa_cons (pe_bltn (v := .ty "bool") (by rfl) T.z_bool boot_bool rfl) pa_nil)))))))) (pss_one (ps_ret pe_bl)) pss_nil)
 (pss_one (ps_if (PW.pt (pw_or (pt_cmpR (op_neQ hr.units) (pe_call (ok_strangers T) (hr.mono (by decide)) (by rfl) T.g_strangers T.F_strangers.kp T.b_strangers .nil pass0 (pa_cons (pv 7) (pa_cons (pv 6) pa_nil))) (pe_call (ok_law_apart T) (hr.mono (by decide)) (by rfl) T.g_law_apart T.F_law_apart.kp T.b_law_apart .nil pass0 (pa_cons (pv 6) (pa_cons (pv 7) pa_nil))) (nomark _)) (pw_or1 (pt_cmpR op_notBl (pe_call (ok_strangers T) (hr.mono (by decide)) (by rfl) T.g_strangers T.F_strangers.kp T.b_strangers .nil pass0 (pa_cons (pv 6) (pa_cons (pv 6) pa_nil))) pe_bl (nomark _))))) (pss_one (ps_ret pe_bl)) pss_nil))))))))))
 (pss_one (ps_ret (pe_and (pe_cmpR op_isBl (pe_call (ok_same T) (hr.mono (by decide)) (by rfl) T.g_same T.F_same.kp T.b_same .nil pass0 (pa_cons (pe_lst pa_nil) (pa_cons (pe_lst pa_nil) pa_nil))) pe_bl (nomark _)) (pe_one (pe_cmpR (op_eqQ hr.units) (pe_call (ok_first_order T) (hr.mono (by decide)) (by rfl) T.g_first_order T.F_first_order.kp T.b_first_order .nil pass0 (pa_cons (pe_lst pa_nil) pa_nil)) (pe_lst pa_nil) (nomark _))))))), fn_read (N := ["_law_script", "_law_cell", "_law_purse_here", "_law_people", "_law_history", "_law_turn", "_law_first", "_law_second_here", "_law_k"]) (ab := (ab_law K)) (fun ea => ?_) red_law h⟩
  unfold ab_law
  exact (RS.seq (RS.for (RI.rng1 (RR.cons RE.int RR.nil)) RG.nm
 (RS.seq (RS.asg (RN.call0 (asp := (sp_law_purse K)) (RA.cons RE.var (RA.cons RE.var RA.nil))))
 (RS.seq (RS.asg (RN.call0 (asp := sp_law_names) (RA.consL RE.var (RA.cons (RE.op oAdd_ok RE.int (RE.fz (RN.call0 (asp := sp_law_draw) (RA.consL RE.var (RA.cons RE.int RA.nil))))) RA.nil))))
 (RS.seq (RS.asg (RN.lc (RI.rng1 (RR.cons (RE.fz (RN.call0 (asp := sp_law_draw) (RA.consL RE.var (RA.cons RE.int RA.nil)))) RR.nil)) RG.nm RT.yes (RE.fz (RN.call0 (asp := sp_law_exchange) (RA.consL RE.var (RA.cons RE.var RA.nil)))) (by decide)))
 (RS.seq (RS.for (RI.rng1 (RR.cons RE.int RR.nil)) RG.nm
 (RS.ifs (RT.not (RT.b (RE.fz (RN.call0 (asp := sp_law_right) (RA.cons RE.var (RA.cons (RE.fz (RN.call0 (asp := sp_law_second) (RA.consL RE.var (RA.cons RE.var (RA.cons RE.var RA.nil))))) (RA.cons RE.var RA.nil)))))))
 (RS.ret (RN.of RE.bl))
 RS.next))
 (RS.seq (RS.asg (RN.call0 (asp := sp_law_exchange) (RA.consL RE.var (RA.cons RE.var RA.nil))))
 (RS.seq (RS.asg (RN.call0 (asp := sp_law_exchange) (RA.consL RE.var (RA.cons RE.var RA.nil))))
 (RS.seq (RS.ifs (RT.or (RT.test (RE.op oNe_ok (RE.fz (RN.call0 (asp := sp_strangers) (RA.cons RE.var (RA.cons RE.var RA.nil)))) (RE.fz (RN.call0 (asp := sp_law_apart) (RA.cons RE.var (RA.cons RE.var RA.nil)))))) (RT.not (RT.b (RE.isi (by decide +kernel) (RE.fz (RN.call0 (asp := sp_strangers) (RA.cons RE.var (RA.cons RE.var RA.nil))))))))
 (RS.ret (RN.of RE.bl))
 RS.next)
 (RS.ifs (RT.or (RT.test (RE.op oNe_ok (RE.fz (RN.call0 (asp := sp_strangers) (RA.cons RE.var (RA.cons RE.var RA.nil)))) (RE.fz (RN.call0 (asp := sp_law_apart) (RA.cons RE.var (RA.cons RE.var RA.nil)))))) (RT.test (RE.op oIsNB_ok (RE.fz (RN.call0 (asp := sp_strangers) (RA.cons RE.var (RA.cons RE.var RA.nil)))) RE.bl)))
 (RS.ret (RN.of RE.bl))
 RS.next)))))))))
 (RS.ret (RN.of (RE.andV (RE.op oIsB_ok (RE.fz (RN.call0 (asp := sp_same) (RA.cons (RE.fz (RN.lst RA.nil)) (RA.cons (RE.fz (RN.lst RA.nil)) RA.nil)))) RE.bl) (RE.op oEq_ok (RE.fz (RN.call0 (asp := sp_first_order) (RA.cons (RE.fz (RN.lst RA.nil)) RA.nil))) (RE.fz (RN.lst RA.nil)))))))
def spLaw (K : PySem.W.Frag) : Sp := fun vs H Q _ => ∃ (a : Addr) (ns : List Int), vs = [.ref a] ∧ SqL K H a (ns.map V.int) ∧ ns.length ≤ 63 ∧ ∀ H', Q (.bl true) H'
theorem spLaw_imp {K : PySem.W.Frag} {vs : List V} {H : Hp} {Q : VK} {E : XK} (h : spLaw K vs H Q E) : SpA 1 (sp_law K) vs H Q E := by
  obtain ⟨a, ns, rfl, hS, _, q⟩ := h
  have sm : Same (fun x => if x = a then H x else none) H := fun x o e => by
    dsimp only at e
    split at e
    · exact e
    · cases e
  refine ⟨⟨fun _ => none, fun x => if x = a then H x else none, fun _ => a, 0⟩, [.raw (.ref a) fun F => SqL K F a (ns.map V.int)], [], fun n _ => n = .w (.d (.bl true)), fun _ _ _ => False, ?_, rfl, .cons ⟨rfl, ?_, ?_⟩ .nil, rfl, ⟨a, _, ns, rfl, fun _ h => h, fun _ => rfl⟩, ?_, fun _ _ _ h => h.elim⟩
  · exact ⟨sm, fun _ _ e => (nomatch e), fun _ _ e => (nomatch e), Ext.refl, fun _ _ h => (nomatch h), fun _ _ e => (nomatch e)⟩
  · rcases hS with (h | ⟨o, h⟩) | h
    · exact .inl (.inl ((if_pos rfl).trans h))
    · exact .inl (.inr ⟨o, (if_pos rfl).trans h⟩)
    · exact .inr h
  · exact fun _ _ s h => SqL.up s h
  · rintro n st' F' al' H' v rfl _ hv
    cases hv
    exact q H'
theorem ok_lawZ (T : Top K mg) : FnOk P w K mg base CX0 6 T.a_law T.fd_law ["_law_script"] (spLaw K) := (ok_law T).imp fun _ _ _ _ h => spLaw_imp h
end
theorem all_mk {l : PySem.W.OpenLaw} {w : World} {K : PySem.W.Frag} {h : Heap} {mg : Str → Option Value} {fa : Addr} (X : K.In h) (G : h.Ns mainGlobals mg) (hfa : mg "law" = some (.ref fa))
    {f0 : Addr} {od0 an0 : Option Addr} {sl0 : Array (Option Value)} {oc0 kV0 dc0 pm0 cd0 ct0 : Value}
    (a0 : PySem.W.nsIn K mainGlobals "strangers" = some (some (.ref f0)))
    (l0 : K.lookup f0 = some ⟨oc0, od0, .func (PySem.W.fnOf "strangers" "strangers" (defArgs s_strangers) (defBody s_strangers) (defScope s_strangers) .none kV0 dc0 pm0 an0 cd0 ct0), sl0⟩)
    (c0 : PySem.W.codeIn K cd0 "strangers" = true)
    (k0 : PySem.W.keepIn K (.ref f0) = true)
    {f1 : Addr} {od1 an1 : Option Addr} {sl1 : Array (Option Value)} {oc1 kV1 dc1 pm1 cd1 ct1 : Value}
    (a1 : PySem.W.nsIn K mainGlobals "hands_in" = some (some (.ref f1)))
    (l1 : K.lookup f1 = some ⟨oc1, od1, .func (PySem.W.fnOf "hands_in" "hands_in" (defArgs s_hands_in) (defBody s_hands_in) (defScope s_hands_in) .none kV1 dc1 pm1 an1 cd1 ct1), sl1⟩)
    (c1 : PySem.W.codeIn K cd1 "hands_in" = true)
    (k1 : PySem.W.keepIn K (.ref f1) = true)
    {f2 : Addr} {od2 an2 : Option Addr} {sl2 : Array (Option Value)} {oc2 kV2 dc2 pm2 cd2 ct2 : Value}
    (a2 : PySem.W.nsIn K mainGlobals "same" = some (some (.ref f2)))
    (l2 : K.lookup f2 = some ⟨oc2, od2, .func (PySem.W.fnOf "same" "same" (defArgs s_same) (defBody s_same) (defScope s_same) .none kV2 dc2 pm2 an2 cd2 ct2), sl2⟩)
    (c2 : PySem.W.codeIn K cd2 "same" = true)
    (k2 : PySem.W.keepIn K (.ref f2) = true)
    {f3 : Addr} {od3 an3 : Option Addr} {sl3 : Array (Option Value)} {oc3 kV3 dc3 pm3 cd3 ct3 : Value}
    (a3 : PySem.W.nsIn K mainGlobals "first_order" = some (some (.ref f3)))
    (l3 : K.lookup f3 = some ⟨oc3, od3, .func (PySem.W.fnOf "first_order" "first_order" (defArgs s_first_order) (defBody s_first_order) (defScope s_first_order) .none kV3 dc3 pm3 an3 cd3 ct3), sl3⟩)
    (c3 : PySem.W.codeIn K cd3 "first_order" = true)
    (k3 : PySem.W.keepIn K (.ref f3) = true)
    {f4 : Addr} {od4 an4 : Option Addr} {sl4 : Array (Option Value)} {oc4 kV4 dc4 pm4 cd4 ct4 : Value}
    (a4 : PySem.W.nsIn K mainGlobals "_law_at" = some (some (.ref f4)))
    (l4 : K.lookup f4 = some ⟨oc4, od4, .func (PySem.W.fnOf "_law_at" "_law_at" (defArgs s_law_at) (defBody s_law_at) (defScope s_law_at) .none kV4 dc4 pm4 an4 cd4 ct4), sl4⟩)
    (c4 : PySem.W.codeIn K cd4 "_law_at" = true)
    (k4 : PySem.W.keepIn K (.ref f4) = true)
    {f5 : Addr} {od5 an5 : Option Addr} {sl5 : Array (Option Value)} {oc5 kV5 dc5 pm5 cd5 ct5 : Value}
    (a5 : PySem.W.nsIn K mainGlobals "_law_mixed" = some (some (.ref f5)))
    (l5 : K.lookup f5 = some ⟨oc5, od5, .func (PySem.W.fnOf "_law_mixed" "_law_mixed" (defArgs s_law_mixed) (defBody s_law_mixed) (defScope s_law_mixed) .none kV5 dc5 pm5 an5 cd5 ct5), sl5⟩)
    (c5 : PySem.W.codeIn K cd5 "_law_mixed" = true)
    (k5 : PySem.W.keepIn K (.ref f5) = true)
    {f6 : Addr} {od6 an6 : Option Addr} {sl6 : Array (Option Value)} {oc6 kV6 dc6 pm6 cd6 ct6 : Value}
    (a6 : PySem.W.nsIn K mainGlobals "_law_purse" = some (some (.ref f6)))
    (l6 : K.lookup f6 = some ⟨oc6, od6, .func (PySem.W.fnOf "_law_purse" "_law_purse" (defArgs s_law_purse) (defBody s_law_purse) (defScope s_law_purse) .none kV6 dc6 pm6 an6 cd6 ct6), sl6⟩)
    (c6 : PySem.W.codeIn K cd6 "_law_purse" = true)
    (k6 : PySem.W.keepIn K (.ref f6) = true)
    {f7 : Addr} {od7 an7 : Option Addr} {sl7 : Array (Option Value)} {oc7 kV7 dc7 pm7 cd7 ct7 : Value}
    (a7 : PySem.W.nsIn K mainGlobals "_law_draw" = some (some (.ref f7)))
    (l7 : K.lookup f7 = some ⟨oc7, od7, .func (PySem.W.fnOf "_law_draw" "_law_draw" (defArgs s_law_draw) (defBody s_law_draw) (defScope s_law_draw) .none kV7 dc7 pm7 an7 cd7 ct7), sl7⟩)
    (c7 : PySem.W.codeIn K cd7 "_law_draw" = true)
    (k7 : PySem.W.keepIn K (.ref f7) = true)
    {f8 : Addr} {od8 an8 : Option Addr} {sl8 : Array (Option Value)} {oc8 kV8 dc8 pm8 cd8 ct8 : Value}
    (a8 : PySem.W.nsIn K mainGlobals "_law_order" = some (some (.ref f8)))
    (l8 : K.lookup f8 = some ⟨oc8, od8, .func (PySem.W.fnOf "_law_order" "_law_order" (defArgs s_law_order) (defBody s_law_order) (defScope s_law_order) .none kV8 dc8 pm8 an8 cd8 ct8), sl8⟩)
    (c8 : PySem.W.codeIn K cd8 "_law_order" = true)
    (k8 : PySem.W.keepIn K (.ref f8) = true)
    {f9 : Addr} {od9 an9 : Option Addr} {sl9 : Array (Option Value)} {oc9 kV9 dc9 pm9 cd9 ct9 : Value}
    (a9 : PySem.W.nsIn K mainGlobals "_law_names" = some (some (.ref f9)))
    (l9 : K.lookup f9 = some ⟨oc9, od9, .func (PySem.W.fnOf "_law_names" "_law_names" (defArgs s_law_names) (defBody s_law_names) (defScope s_law_names) .none kV9 dc9 pm9 an9 cd9 ct9), sl9⟩)
    (c9 : PySem.W.codeIn K cd9 "_law_names" = true)
    (k9 : PySem.W.keepIn K (.ref f9) = true)
    {f10 : Addr} {od10 an10 : Option Addr} {sl10 : Array (Option Value)} {oc10 kV10 dc10 pm10 cd10 ct10 : Value}
    (a10 : PySem.W.nsIn K mainGlobals "_law_swapped" = some (some (.ref f10)))
    (l10 : K.lookup f10 = some ⟨oc10, od10, .func (PySem.W.fnOf "_law_swapped" "_law_swapped" (defArgs s_law_swapped) (defBody s_law_swapped) (defScope s_law_swapped) .none kV10 dc10 pm10 an10 cd10 ct10), sl10⟩)
    (c10 : PySem.W.codeIn K cd10 "_law_swapped" = true)
    (k10 : PySem.W.keepIn K (.ref f10) = true)
    {f11 : Addr} {od11 an11 : Option Addr} {sl11 : Array (Option Value)} {oc11 kV11 dc11 pm11 cd11 ct11 : Value}
    (a11 : PySem.W.nsIn K mainGlobals "_law_apart" = some (some (.ref f11)))
    (l11 : K.lookup f11 = some ⟨oc11, od11, .func (PySem.W.fnOf "_law_apart" "_law_apart" (defArgs s_law_apart) (defBody s_law_apart) (defScope s_law_apart) .none kV11 dc11 pm11 an11 cd11 ct11), sl11⟩)
    (c11 : PySem.W.codeIn K cd11 "_law_apart" = true)
    (k11 : PySem.W.keepIn K (.ref f11) = true)
    {f12 : Addr} {od12 an12 : Option Addr} {sl12 : Array (Option Value)} {oc12 kV12 dc12 pm12 cd12 ct12 : Value}
    (a12 : PySem.W.nsIn K mainGlobals "_law_all_orders" = some (some (.ref f12)))
    (l12 : K.lookup f12 = some ⟨oc12, od12, .func (PySem.W.fnOf "_law_all_orders" "_law_all_orders" (defArgs s_law_all_orders) (defBody s_law_all_orders) (defScope s_law_all_orders) .none kV12 dc12 pm12 an12 cd12 ct12), sl12⟩)
    (c12 : PySem.W.codeIn K cd12 "_law_all_orders" = true)
    (k12 : PySem.W.keepIn K (.ref f12) = true)
    {f13 : Addr} {od13 an13 : Option Addr} {sl13 : Array (Option Value)} {oc13 kV13 dc13 pm13 cd13 ct13 : Value}
    (a13 : PySem.W.nsIn K mainGlobals "_law_views_same" = some (some (.ref f13)))
    (l13 : K.lookup f13 = some ⟨oc13, od13, .func (PySem.W.fnOf "_law_views_same" "_law_views_same" (defArgs s_law_views_same) (defBody s_law_views_same) (defScope s_law_views_same) .none kV13 dc13 pm13 an13 cd13 ct13), sl13⟩)
    (c13 : PySem.W.codeIn K cd13 "_law_views_same" = true)
    (k13 : PySem.W.keepIn K (.ref f13) = true)
    {f14 : Addr} {od14 an14 : Option Addr} {sl14 : Array (Option Value)} {oc14 kV14 dc14 pm14 cd14 ct14 : Value}
    (a14 : PySem.W.nsIn K mainGlobals "_law_earliest" = some (some (.ref f14)))
    (l14 : K.lookup f14 = some ⟨oc14, od14, .func (PySem.W.fnOf "_law_earliest" "_law_earliest" (defArgs s_law_earliest) (defBody s_law_earliest) (defScope s_law_earliest) .none kV14 dc14 pm14 an14 cd14 ct14), sl14⟩)
    (c14 : PySem.W.codeIn K cd14 "_law_earliest" = true)
    (k14 : PySem.W.keepIn K (.ref f14) = true)
    {f15 : Addr} {od15 an15 : Option Addr} {sl15 : Array (Option Value)} {oc15 kV15 dc15 pm15 cd15 ct15 : Value}
    (a15 : PySem.W.nsIn K mainGlobals "_law_exchange" = some (some (.ref f15)))
    (l15 : K.lookup f15 = some ⟨oc15, od15, .func (PySem.W.fnOf "_law_exchange" "_law_exchange" (defArgs s_law_exchange) (defBody s_law_exchange) (defScope s_law_exchange) .none kV15 dc15 pm15 an15 cd15 ct15), sl15⟩)
    (c15 : PySem.W.codeIn K cd15 "_law_exchange" = true)
    (k15 : PySem.W.keepIn K (.ref f15) = true)
    {f16 : Addr} {od16 an16 : Option Addr} {sl16 : Array (Option Value)} {oc16 kV16 dc16 pm16 cd16 ct16 : Value}
    (a16 : PySem.W.nsIn K mainGlobals "_law_second" = some (some (.ref f16)))
    (l16 : K.lookup f16 = some ⟨oc16, od16, .func (PySem.W.fnOf "_law_second" "_law_second" (defArgs s_law_second) (defBody s_law_second) (defScope s_law_second) .none kV16 dc16 pm16 an16 cd16 ct16), sl16⟩)
    (c16 : PySem.W.codeIn K cd16 "_law_second" = true)
    (k16 : PySem.W.keepIn K (.ref f16) = true)
    {f17 : Addr} {od17 an17 : Option Addr} {sl17 : Array (Option Value)} {oc17 kV17 dc17 pm17 cd17 ct17 : Value}
    (a17 : PySem.W.nsIn K mainGlobals "_law_right" = some (some (.ref f17)))
    (l17 : K.lookup f17 = some ⟨oc17, od17, .func (PySem.W.fnOf "_law_right" "_law_right" (defArgs s_law_right) (defBody s_law_right) (defScope s_law_right) .none kV17 dc17 pm17 an17 cd17 ct17), sl17⟩)
    (c17 : PySem.W.codeIn K cd17 "_law_right" = true)
    (k17 : PySem.W.keepIn K (.ref f17) = true)
    {f18 : Addr} {od18 an18 : Option Addr} {sl18 : Array (Option Value)} {oc18 kV18 dc18 pm18 cd18 ct18 : Value}
    (a18 : PySem.W.nsIn K mainGlobals "law" = some (some (.ref f18)))
    (l18 : K.lookup f18 = some ⟨oc18, od18, .func (PySem.W.fnOf "law" "law" (defArgs s_law) (defBody s_law) (defScope s_law) .none kV18 dc18 pm18 an18 cd18 ct18), sl18⟩)
    (c18 : PySem.W.codeIn K cd18 "law" = true)
    (k18 : PySem.W.keepIn K (.ref f18) = true)
    (z0 : PySem.W.nsIn K mainGlobals "bool" = some none)
    (z1 : PySem.W.nsIn K mainGlobals "enumerate" = some none)
    (z2 : PySem.W.nsIn K mainGlobals "isinstance" = some none)
    (z3 : PySem.W.nsIn K mainGlobals "len" = some none)
    (z4 : PySem.W.nsIn K mainGlobals "list" = some none)
    (z5 : PySem.W.nsIn K mainGlobals "max" = some none)
    (z6 : PySem.W.nsIn K mainGlobals "min" = some none)
    (z7 : PySem.W.nsIn K mainGlobals "range" = some none)
    (z8 : PySem.W.nsIn K mainGlobals "sorted" = some none)
    : ∃ fd : FuncData, (∀ (s : Shared) (v : Value), BindsTo s fd ⟨[v], []⟩ [("_law_script", v)]) ∧ ∀ base : Heap, K.In base → base.Ns mainGlobals mg → FnOk l.prog w K mg base CX0 6 fa fd ["_law_script"] (spLaw K) := by
  have e := hfa.symm.trans (PySem.W.mg_of X G a18)
  cases e
  have F0 := fun_mk (st := s_strangers) l0 c0 k0
  have b0 := F0.binds (ps := ["one", "other"]) fun _ _ _ _ _ _ us hl => match us, hl with | [_, _], _ => rfl
  have F1 := fun_mk (st := s_hands_in) l1 c1 k1
  have b1 := F1.binds (ps := ["history"]) fun _ _ _ _ _ _ us hl => match us, hl with | [_], _ => rfl
  have F2 := fun_mk (st := s_same) l2 c2 k2
  have b2 := F2.binds (ps := ["one", "other"]) fun _ _ _ _ _ _ us hl => match us, hl with | [_, _], _ => rfl
  have F3 := fun_mk (st := s_first_order) l3 c3 k3
  have b3 := F3.binds (ps := ["history"]) fun _ _ _ _ _ _ us hl => match us, hl with | [_], _ => rfl
  have F4 := fun_mk (st := s_law_at) l4 c4 k4
  have b4 := F4.binds (ps := ["_law_script", "_law_k"]) fun _ _ _ _ _ _ us hl => match us, hl with | [_, _], _ => rfl
  have F5 := fun_mk (st := s_law_mixed) l5 c5 k5
  have b5 := F5.binds (ps := ["_law_cell", "_law_k"]) fun _ _ _ _ _ _ us hl => match us, hl with | [_, _], _ => rfl
  have F6 := fun_mk (st := s_law_purse) l6 c6 k6
  have b6 := F6.binds (ps := ["_law_script", "_law_at_here"]) fun _ _ _ _ _ _ us hl => match us, hl with | [_, _], _ => rfl
  have F7 := fun_mk (st := s_law_draw) l7 c7 k7
  have b7 := F7.binds (ps := ["_law_purse_here", "_law_out_of"]) fun _ _ _ _ _ _ us hl => match us, hl with | [_, _], _ => rfl
  have F8 := fun_mk (st := s_law_order) l8 c8 k8
  have b8 := F8.binds (ps := ["_law_purse_here", "_law_some"]) fun _ _ _ _ _ _ us hl => match us, hl with | [_, _], _ => rfl
  have F9 := fun_mk (st := s_law_names) l9 c9 k9
  have b9 := F9.binds (ps := ["_law_purse_here", "_law_many"]) fun _ _ _ _ _ _ us hl => match us, hl with | [_, _], _ => rfl
  have F10 := fun_mk (st := s_law_swapped) l10 c10 k10
  have b10 := F10.binds (ps := ["_law_purse_here", "_law_history"]) fun _ _ _ _ _ _ us hl => match us, hl with | [_, _], _ => rfl
  have F11 := fun_mk (st := s_law_apart) l11 c11 k11
  have b11 := F11.binds (ps := ["_law_one", "_law_other"]) fun _ _ _ _ _ _ us hl => match us, hl with | [_, _], _ => rfl
  have F12 := fun_mk (st := s_law_all_orders) l12 c12 k12
  have b12 := F12.binds (ps := ["_law_history", "_law_most"]) fun _ _ _ _ _ _ us hl => match us, hl with | [_, _], _ => rfl
  have F13 := fun_mk (st := s_law_views_same) l13 c13 k13
  have b13 := F13.binds (ps := ["_law_one", "_law_other", "_law_people"]) fun _ _ _ _ _ _ us hl => match us, hl with | [_, _, _], _ => rfl
  have F14 := fun_mk (st := s_law_earliest) l14 c14 k14
  have b14 := F14.binds (ps := ["_law_history"]) fun _ _ _ _ _ _ us hl => match us, hl with | [_], _ => rfl
  have F15 := fun_mk (st := s_law_exchange) l15 c15 k15
  have b15 := F15.binds (ps := ["_law_purse_here", "_law_people"]) fun _ _ _ _ _ _ us hl => match us, hl with | [_, _], _ => rfl
  have F16 := fun_mk (st := s_law_second) l16 c16 k16
  have b16 := F16.binds (ps := ["_law_purse_here", "_law_history", "_law_people"]) fun _ _ _ _ _ _ us hl => match us, hl with | [_, _, _], _ => rfl
  have F17 := fun_mk (st := s_law_right) l17 c17 k17
  have b17 := F17.binds (ps := ["_law_one", "_law_other", "_law_people"]) fun _ _ _ _ _ _ us hl => match us, hl with | [_, _, _], _ => rfl
  have F18 := fun_mk (st := s_law) l18 c18 k18
  have b18 := F18.binds (ps := ["_law_script"]) fun _ _ _ _ _ _ us hl => match us, hl with | [_], _ => rfl
  exact ⟨PySem.W.fnOf "law" "law" (defArgs s_law) (defBody s_law) (defScope s_law) .none kV18 dc18 pm18 an18 cd18 ct18, fun s v => .of_eq rfl, fun base _ _ => ok_lawZ ⟨_, _, F0, b0, PySem.W.mg_of X G a0, _, _, F1, b1, PySem.W.mg_of X G a1, _, _, F2, b2, PySem.W.mg_of X G a2, _, _, F3, b3, PySem.W.mg_of X G a3, _, _, F4, b4, PySem.W.mg_of X G a4, _, _, F5, b5, PySem.W.mg_of X G a5, _, _, F6, b6, PySem.W.mg_of X G a6, _, _, F7, b7, PySem.W.mg_of X G a7, _, _, F8, b8, PySem.W.mg_of X G a8, _, _, F9, b9, PySem.W.mg_of X G a9, _, _, F10, b10, PySem.W.mg_of X G a10, _, _, F11, b11, PySem.W.mg_of X G a11, _, _, F12, b12, PySem.W.mg_of X G a12, _, _, F13, b13, PySem.W.mg_of X G a13, _, _, F14, b14, PySem.W.mg_of X G a14, _, _, F15, b15, PySem.W.mg_of X G a15, _, _, F16, b16, PySem.W.mg_of X G a16, _, _, F17, b17, PySem.W.mg_of X G a17, _, _, F18, b18, PySem.W.mg_of X G a18, PySem.W.mg_none_of X G z0, PySem.W.mg_none_of X G z1, PySem.W.mg_none_of X G z2, PySem.W.mg_none_of X G z3, PySem.W.mg_none_of X G z4, PySem.W.mg_none_of X G z5, PySem.W.mg_none_of X G z6, PySem.W.mg_none_of X G z7, PySem.W.mg_none_of X G z8⟩⟩
end K06
open PySem PySem.W PyProof.Rows
set_option maxRecDepth 100000 in
set_option maxHeartbeats 0 in
theorem PySem.Challenge.cw_talkwatch_k06_same_and_first_holds : PySem.Challenge.rw_talkwatch_k06_same_and_first.Holds := by
  w_on; o_law; k_head; (case hw => w_witness2)
  k_fill
  refine L2.walk_of (l := PySem.Challenge.rw_talkwatch_k06_same_and_first) (n := 63) (k := 6) (x := "_law_script") (CX := fun _ => L2.CX0) (sp := fun w => K06.spLaw _) rfl (by decide) rfl ⟨rfl, by decide, by decide⟩ (fun w h Y => PySem.W.kIn_of Y) ?F (fun _ _ a ns hl _ hS => ⟨a, ns, rfl, hS, hl, fun _ => rfl⟩) (fun _ _ _ _ _ h => h)
  case F =>
    intro w mg fa h KX G hmg
    refine' K06.all_mk KX G hmg ?a0 ?l0 ?c0 ?k0 ?a1 ?l1 ?c1 ?k1 ?a2 ?l2 ?c2 ?k2 ?a3 ?l3 ?c3 ?k3 ?a4 ?l4 ?c4 ?k4 ?a5 ?l5 ?c5 ?k5 ?a6 ?l6 ?c6 ?k6 ?a7 ?l7 ?c7 ?k7 ?a8 ?l8 ?c8 ?k8 ?a9 ?l9 ?c9 ?k9 ?a10 ?l10 ?c10 ?k10 ?a11 ?l11 ?c11 ?k11 ?a12 ?l12 ?c12 ?k12 ?a13 ?l13 ?c13 ?k13 ?a14 ?l14 ?c14 ?k14 ?a15 ?l15 ?c15 ?k15 ?a16 ?l16 ?c16 ?k16 ?a17 ?l17 ?c17 ?k17 ?a18 ?l18 ?c18 ?k18 ?z0 ?z1 ?z2 ?z3 ?z4 ?z5 ?z6 ?z7 ?z8
    (case a0 => k_is)
    (case l0 => k_is)
    (case c0 => k_is)
    (case k0 => k_is)
    (case a1 => k_is)
    (case l1 => k_is)
    (case c1 => k_is)
    (case k1 => k_is)
    (case a2 => k_is)
    (case l2 => k_is)
    (case c2 => k_is)
    (case k2 => k_is)
    (case a3 => k_is)
    (case l3 => k_is)
    (case c3 => k_is)
    (case k3 => k_is)
    (case a4 => k_is)
    (case l4 => k_is)
    (case c4 => k_is)
    (case k4 => k_is)
    (case a5 => k_is)
    (case l5 => k_is)
    (case c5 => k_is)
    (case k5 => k_is)
    (case a6 => k_is)
    (case l6 => k_is)
    (case c6 => k_is)
    (case k6 => k_is)
    (case a7 => k_is)
    (case l7 => k_is)
    (case c7 => k_is)
    (case k7 => k_is)
    (case a8 => k_is)
    (case l8 => k_is)
    (case c8 => k_is)
    (case k8 => k_is)
    (case a9 => k_is)
    (case l9 => k_is)
    (case c9 => k_is)
    (case k9 => k_is)
    (case a10 => k_is)
    (case l10 => k_is)
    (case c10 => k_is)
    (case k10 => k_is)
    (case a11 => k_is)
    (case l11 => k_is)
    (case c11 => k_is)
    (case k11 => k_is)
    (case a12 => k_is)
    (case l12 => k_is)
    (case c12 => k_is)
    (case k12 => k_is)
    (case a13 => k_is)
    (case l13 => k_is)
    (case c13 => k_is)
    (case k13 => k_is)
    (case a14 => k_is)
    (case l14 => k_is)
    (case c14 => k_is)
    (case k14 => k_is)
    (case a15 => k_is)
    (case l15 => k_is)
    (case c15 => k_is)
    (case k15 => k_is)
    (case a16 => k_is)
    (case l16 => k_is)
    (case c16 => k_is)
    (case k16 => k_is)
    (case a17 => k_is)
    (case l17 => k_is)
    (case c17 => k_is)
    (case k17 => k_is)
    (case a18 => k_is)
    (case l18 => k_is)
    (case c18 => k_is)
    (case k18 => k_is)
    (case z0 => k_is)
    (case z1 => k_is)
    (case z2 => k_is)
    (case z3 => k_is)
    (case z4 => k_is)
    (case z5 => k_is)
    (case z6 => k_is)
    (case z7 => k_is)
    (case z8 => k_is)
