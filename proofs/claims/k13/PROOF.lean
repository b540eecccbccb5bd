import PyProof.Rows.All
import Wide.All
import OpenK.AllK
import Wide.FinOn
import HandS.ForMost
import HandS.Deep
import HandS.Style
import HandS.Wide
import HandS.WideBits
import HandS.IsInst
import KE.DataEq
import HandS.Exc
import HandS.ExcInit
import HandS.ExcField
import HandS.Defaults
import HandS.ExcBuiltin
import HandS.TupAny
import HandS.Walk
import KE.KExcInit
import KE.KExcIs
import HandS.SetBool
import KE.KeyNested
import HandS.SetKeys
import HandS.Set
import KE.SortData
import KE.DataMinMax
import KE.GoesSet
import PyProof.DictMoreH
import HandS.TupLen
import HandS.Iter
import KE.KDictPairs
import KE.KDictSum
import HandS.DictTup
import HandS.TupSets
import HandS.Zip
import PyProof.DictTable
import PySem.Challenge.RW_talkwatch_k13_counts_and_shortest
set_option Elab.async false
set_option linter.all false
set_option maxRecDepth 100000
set_option maxHeartbeats 4000000
/-! Ly: data in an abstract heap (Dq), a frozen part within a heap (Fr), what an expression evaluates to as data (EvF, EvO, EvT, EvA). -/
namespace Ly
open PySem PySem.Spec PyProof.Rows L2

/-! ### data -/
def keyD : Key → PyData
  | .inl i => .int i
  | .inr s => .str s
mutual
inductive Dq (H : Hp) : V → PyData → Prop
  | non : Dq H .non .none
  | bl (b : Bool) : Dq H (.bl b) (.bool b)
  | int (i : Int) : Dq H (.int i) (.int i)
  | str (x : Str) : Dq H (.str x) (.str x)
  | lst {a : Addr} {xs : List V} {ds : List PyData} : H a = some (.lst xs) → DqAll H xs ds → Dq H (.ref a) (.list ds)
  | tup {a : Addr} {xs : List V} {ds : List PyData} : H a = some (.tup xs) → DqAll H xs ds → Dq H (.ref a) (.tuple ds)
  | dK {a : Addr} {kvs : List (Key × V)} {ds : List PyData} : H a = some (.dK kvs) → DqAll H (kvs.map (·.2)) ds → Dq H (.ref a) (.dict ((kvs.map fun kv => keyD kv.1).zip ds))
  | dT {a : Addr} {kvs : List (List Key × V)} {ds : List PyData} : H a = some (.dT kvs) → DqAll H (kvs.map (·.2)) ds → Dq H (.ref a) (.dict ((kvs.map fun kv => PyData.tuple (kv.1.map keyD)).zip ds))
inductive DqAll (H : Hp) : List V → List PyData → Prop
  | nil : DqAll H [] []
  | cons {v : V} {vs : List V} {d : PyData} {ds : List PyData} : Dq H v d → DqAll H vs ds → DqAll H (v :: vs) (d :: ds)
end
section
variable {H H' : Hp} {K : PySem.W.Frag}
mutual
theorem Dq.mono (k : ∀ a o, H a = some o → H' a = some o) : ∀ {v : V} {d : PyData}, Dq H v d → Dq H' v d
  | _, _, .non => .non
  | _, _, .bl b => .bl b
  | _, _, .int i => .int i
  | _, _, .str x => .str x
  | _, _, .lst e h => .lst (k _ _ e) (DqAll.mono k h)
  | _, _, .tup e h => .tup (k _ _ e) (DqAll.mono k h)
  | _, _, .dK e h => .dK (k _ _ e) (DqAll.mono k h)
  | _, _, .dT e h => .dT (k _ _ e) (DqAll.mono k h)
theorem DqAll.mono (k : ∀ a o, H a = some o → H' a = some o) : ∀ {vs : List V} {ds : List PyData}, DqAll H vs ds → DqAll H' vs ds
  | _, _, .nil => .nil
  | _, _, .cons h t => .cons (Dq.mono k h) (DqAll.mono k t)
end
mutual
theorem Dq.dp : ∀ {v : V} {d : PyData}, Dq H v d → d.plain = true → Dp K H v d
  | _, _, .non, _ => .non
  | _, _, .bl b, _ => .bl b
  | _, _, .int i, _ => .int i
  | _, _, .str x, _ => .str x
  | _, _, .lst e h, p => .lst (SqL.of e) (DqAll.dp h (by simpa only [PyData.plain] using p))
  | _, _, .tup e h, p => .tup (SqT.of e) (DqAll.dp h (by simpa only [PyData.plain] using p))
  | _, _, .dK e h, p => by simp only [PyData.plain] at p; cases p
  | _, _, .dT e h, p => by simp only [PyData.plain] at p; cases p
theorem DqAll.dp : ∀ {vs : List V} {ds : List PyData}, DqAll H vs ds → PyData.plainAll ds = true → DpAll K H vs ds
  | _, _, .nil, _ => .nil
  | _, _, .cons h t, p => by
    simp only [PyData.plainAll, Bool.and_eq_true] at p
    exact .cons (Dq.dp h p.1) (DqAll.dp t p.2)
end
theorem DqAll.length : ∀ {vs : List V} {ds : List PyData}, DqAll H vs ds → vs.length = ds.length
  | _, _, .nil => rfl
  | _, _, .cons _ t => by rw [List.length_cons, List.length_cons, DqAll.length t]
theorem DqAll.get : ∀ {vs : List V} {ds : List PyData} {i : Nat} {d : PyData}, DqAll H vs ds → ds[i]? = some d → ∃ v, vs[i]? = some v ∧ Dq H v d
  | _, _, _, _, .nil, e => by simp at e
  | _, _, 0, _, .cons h _, e => by simp at e; subst e; exact ⟨_, rfl, h⟩
  | _, _, i + 1, _, .cons _ t, e => by simpa using DqAll.get (i := i) t (by simpa using e)
theorem DqAll.getV : ∀ {vs : List V} {ds : List PyData} {i : Nat} {v : V}, DqAll H vs ds → vs[i]? = some v → ∃ d, ds[i]? = some d ∧ Dq H v d
  | _, _, _, _, .nil, e => by simp at e
  | _, _, 0, _, .cons h _, e => by simp at e; subst e; exact ⟨_, rfl, h⟩
  | _, _, i + 1, _, .cons _ t, e => by simpa using DqAll.getV (i := i) t (by simpa using e)
theorem DqAll.append : ∀ {vs ws : List V} {ds es : List PyData}, DqAll H vs ds → DqAll H ws es → DqAll H (vs ++ ws) (ds ++ es)
  | _, _, _, _, .nil, s => s
  | _, _, _, _, .cons h t, s => .cons h (DqAll.append t s)
theorem DqAll.take : ∀ {vs : List V} {ds : List PyData} (n : Nat), DqAll H vs ds → DqAll H (vs.take n) (ds.take n)
  | _, _, 0, _ => .nil
  | _, _, _ + 1, .nil => .nil
  | _, _, n + 1, .cons h t => .cons h (DqAll.take n t)
theorem DqAll.drop : ∀ {vs : List V} {ds : List PyData} (n : Nat), DqAll H vs ds → DqAll H (vs.drop n) (ds.drop n)
  | _, _, 0, r => r
  | _, _, _ + 1, .nil => .nil
  | _, _, n + 1, .cons _ t => DqAll.drop n t
theorem DqAll.reverse : ∀ {vs : List V} {ds : List PyData}, DqAll H vs ds → DqAll H vs.reverse ds.reverse
  | _, _, .nil => .nil
  | _, _, .cons h t => by
    rw [List.reverse_cons, List.reverse_cons]
    exact DqAll.append (DqAll.reverse t) (.cons h .nil)
theorem DqAll.eraseIdx : ∀ {vs : List V} {ds : List PyData} (i : Nat), DqAll H vs ds → DqAll H (vs.eraseIdx i) (ds.eraseIdx i)
  | _, _, _, .nil => .nil
  | _, _, 0, .cons _ t => t
  | _, _, i + 1, .cons h t => .cons h (DqAll.eraseIdx i t)
theorem Dq.intE {v : V} {i : Int} (h : Dq H v (.int i)) : v = .int i := by cases h; rfl
theorem Dq.blE {v : V} {b : Bool} (h : Dq H v (.bool b)) : v = .bl b := by cases h; rfl
theorem Dq.strE {v : V} {b : Str} (h : Dq H v (.str b)) : v = .str b := by cases h; rfl
theorem Dq.lstE {v : V} {ds : List PyData} (h : Dq H v (.list ds)) : ∃ a xs, v = .ref a ∧ H a = some (.lst xs) ∧ DqAll H xs ds := by cases h with | lst e h => exact ⟨_, _, rfl, e, h⟩
theorem Dq.tupE {v : V} {ds : List PyData} (h : Dq H v (.tuple ds)) : ∃ a xs, v = .ref a ∧ H a = some (.tup xs) ∧ DqAll H xs ds := by cases h with | tup e h => exact ⟨_, _, rfl, e, h⟩
theorem DqAll.strs : ∀ (ss : List Str), DqAll H (ss.map V.str) (ss.map PyData.str)
  | [] => .nil
  | s :: ss => .cons (.str s) (DqAll.strs ss)
theorem DqAll.strsE : ∀ {vs : List V} {ss : List Str}, DqAll H vs (ss.map PyData.str) → vs = ss.map V.str
  | _, [], h => by cases h; rfl
  | _, s :: ss, h => by
    cases h with
    | cons h t => rw [h.strE, DqAll.strsE t]; rfl
end

/-! ### a frozen part F of a heap H, grown to F2 within H2; what stands at M may have changed -/
structure Fr (M : Addr → Prop) (F H F2 H2 : Hp) : Prop where
  ff : Same F F2
  fh : Same F2 H2
  hh : ∀ a o, H a = some o → ¬ M a → H2 a = some o
  st : ∀ a, H2 a = none → H a = none
  nw : ∀ a o, F a = none → H a = some o → F2 a = none
abbrev M0 : Addr → Prop := fun _ => False
section
variable {M N : Addr → Prop} {F H F1 H1 F2 H2 : Hp} {p : Addr} {o o' : HO}
theorem Fr.refl (s : Same F H) : Fr M F H F H := ⟨fun _ _ h => h, s, fun _ _ h _ => h, fun _ h => h, fun _ _ h _ => h⟩
theorem Fr.trans (a : Fr M F H F1 H1) (b : Fr M F1 H1 F2 H2) : Fr M F H F2 H2 where
  ff := fun x o h => b.ff x o (a.ff x o h)
  fh := b.fh
  hh := fun x o h n => b.hh x o (a.hh x o h n) n
  st := fun x h => a.st x (b.st x h)
  nw := fun x o h1 h2 => by
    have n1 := a.nw x o h1 h2
    cases e : H1 x with
    | none => rw [a.st x e] at h2; cases h2
    | some u => exact b.nw x u n1 e
theorem Fr.mono (a : Fr M F H F1 H1) (h : ∀ x, M x → N x) : Fr N F H F1 H1 := ⟨a.ff, a.fh, fun x o e n => a.hh x o e fun z => n (h x z), a.st, a.nw⟩
theorem Fr.up (a : Fr M0 F H F1 H1) : Fr N F H F1 H1 := a.mono fun _ z => z.elim
theorem Fr.new (s : Same F H) (n : H p = none) : Fr M F H (upd F p o) (upd H p o) := by
  have nf : F p = none := s.free n
  refine ⟨fun a u e => ?_, fun a u e => ?_, fun a u e _ => ?_, fun a e => ?_, fun a u e1 e2 => ?_⟩
  · rw [upd_ne (ne_of_none e nf)]; exact e
  · by_cases h : a = p
    · subst h; rw [upd_same] at e ⊢; exact e
    · rw [upd_ne h] at e ⊢; exact s _ _ e
  · rw [upd_ne (ne_of_none e n)]; exact e
  · by_cases h : a = p
    · subst h; exact n
    · rw [upd_ne h] at e; exact e
  · rw [upd_ne (ne_of_none e2 n)]; exact e1
/-- a new object that isn't frozen -/
theorem Fr.own (s : Same F H) (n : H p = none) : Fr M F H F (upd H p o) := by
  refine ⟨fun a u e => e, fun a u e => ?_, fun a u e _ => ?_, fun a e => ?_, fun a u e1 _ => e1⟩
  · rw [upd_ne (ne_of_none (s _ _ e) n)]; exact s _ _ e
  · rw [upd_ne (ne_of_none e n)]; exact e
  · by_cases h : a = p
    · subst h; exact n
    · rw [upd_ne h] at e; exact e
/-- an object that isn't frozen is changed -/
theorem Fr.put (s : Same F H) (nf : F p = none) (m : M p) : Fr M F H F (upd H p o) := by
  refine ⟨fun a u e => e, fun a u e => ?_, fun a u e h => ?_, fun a e => ?_, fun a u e1 _ => e1⟩
  · rw [upd_ne (ne_of_none e nf)]; exact s _ _ e
  · rw [upd_ne (fun z => h (by rw [z]; exact m))]; exact e
  · by_cases h : a = p
    · subst h; rw [upd_same] at e; cases e
    · rw [upd_ne h] at e; exact e
/-- what was new is frozen -/
theorem Fr.take (a : Fr M F H F2 H2) (n : H p = none) (h : H2 p = some o) : Fr M F H (upd F2 p o) H2 := by
  refine ⟨fun x u e => ?_, fun x u e => ?_, a.hh, a.st, fun x u e1 e2 => ?_⟩
  · by_cases q : x = p
    · subst q
      rw [a.fh _ _ (a.ff _ _ e)] at h
      rw [upd_same]; exact h.symm
    · rw [upd_ne q]; exact a.ff _ _ e
  · by_cases q : x = p
    · subst q; rw [upd_same] at e; rw [← e]; exact h
    · rw [upd_ne q] at e; exact a.fh _ _ e
  · rw [upd_ne (ne_of_none e2 n)]; exact a.nw _ _ e1 e2
theorem Fr.same (a : Fr M F H F2 H2) : Same F F2 := a.ff
theorem Fr.inn (a : Fr M F H F2 H2) : Same F2 H2 := a.fh
end

/-! ### what expressions evaluate to -/
def EvF (te : TE) (σ : L2.St) (F : Hp) (d : PyData) : Prop := ∀ H, Same F H → ∀ Q : VK, (∀ v F2 H2, Fr M0 F H F2 H2 → Dq F2 v d → Q v H2) → te σ H Q
/-- a new list, not yet frozen -/
def EvO (te : TE) (σ : L2.St) (F : Hp) (ds : List PyData) : Prop := ∀ H, Same F H → ∀ Q : VK, (∀ p vs F2 H2, Fr M0 F H F2 H2 → H p = none → F2 p = none → H2 p = some (.lst vs) → DqAll F2 vs ds → Q (.ref p) H2) → te σ H Q
def EvT (tt : TT) (σ : L2.St) (F : Hp) (b : Bool) : Prop := ∀ H, Same F H → ∀ Q : Bool → Hp → Prop, (∀ F2 H2, Fr M0 F H F2 H2 → Q b H2) → tt σ H Q
def EvA (ta : TA) (σ : L2.St) (F : Hp) (ds : List PyData) : Prop := ∀ H, Same F H → ∀ Q : List V → Hp → Prop, (∀ vs F2 H2, Fr M0 F H F2 H2 → DqAll F2 vs ds → Q vs H2) → ta σ H Q
def EvI (to : TO) (σ : L2.St) (F : Hp) (o : Option Int) : Prop := ∀ H, Same F H → ∀ Q : Option Int → Hp → Prop, (∀ F2 H2, Fr M0 F H F2 H2 → Q o H2) → to σ H Q

section
variable {K : PySem.W.Frag} {σ : L2.St} {F F1 H : Hp} {ta tb te tx : TE} {t u : TT} {d e : PyData} {ds es : List PyData} {v : V}
theorem EvF.mono (k : Same F F1) (h : EvF te σ F d) : EvF te σ F1 d := fun H s Q q => h H (fun a o e => s a o (k a o e)) Q fun v F2 H2 fr dv => by
  have fr' : Fr M0 F1 H (fun a => match F1 a with | some o => some o | none => F2 a) H2 := by
    refine ⟨fun a o e => ?_, fun a o e => ?_, fr.hh, fr.st, fun a o e1 e2 => ?_⟩
    · show (match F1 a with | some o => some o | none => F2 a) = some o
      rw [e]
    · have e : (match F1 a with | some o => some o | none => F2 a) = some o := e
      cases z : F1 a with
      | some u => rw [z] at e; exact fr.hh _ _ (s _ _ (z.trans e)) fun z => z
      | none => rw [z] at e; exact fr.fh _ _ e
    · show (match F1 a with | some o => some o | none => F2 a) = none
      rw [e1]
      refine fr.nw a o ?_ e2
      cases z : F a with
      | none => rfl
      | some u => rw [k _ _ z] at e1; cases e1
  refine q v _ H2 fr' (dv.mono fun a o e => ?_)
  show (match F1 a with | some o => some o | none => F2 a) = some o
  cases z : F1 a with
  | none => exact e
  | some u =>
    show some u = some o
    have h1 := fr.fh _ _ e
    rw [fr.hh _ _ (s _ _ z) fun z => z] at h1
    exact h1
theorem ev_var {i : Nat} (h : σ[i]? = some (some v)) (hv : Dq F v d) : EvF (tVar i) σ F d := fun H s Q q => ⟨v, h, q v F H (Fr.refl s) hv⟩
theorem ev_c (hv : ∀ F, Dq F v d) : EvF (tC v) σ F d := fun H s Q q => q v F H (Fr.refl s) (hv _)
theorem ev_int {i : Int} : EvF (tC (.int i)) σ F (.int i) := ev_c fun _ => .int i
theorem ev_bl {i : Bool} : EvF (tC (.bl i)) σ F (.bool i) := ev_c fun _ => .bl i
theorem ev_str {i : Str} : EvF (tC (.str i)) σ F (.str i) := ev_c fun _ => .str i
theorem ev_non : EvF (tC .non) σ F .none := ev_c fun _ => .non
theorem EvO.f (h : EvO te σ F ds) : EvF te σ F (.list ds) := fun H s Q q => h H s Q fun p vs F2 H2 fr np nf hp dv =>
  q _ (upd F2 p (.lst vs)) H2 (fr.take np hp) (.lst upd_same (dv.mono fun a o e => by rw [upd_ne (ne_of_none e nf)]; exact e))
/-- a two-place operation -/
theorem ev_op {r : R2} {z : PyData} (ha : EvF ta σ F d) (hb : ∀ F1, Same F F1 → EvF tb σ F1 e)
    (hr : ∀ x y F1 H1 (Q : VK), Same F1 H1 → Dq F1 x d → Dq F1 y e → (∀ v F2 H2, Fr M0 F1 H1 F2 H2 → Dq F2 v z → Q v H2) → r x y H1 Q) : EvF (tOp r ta tb) σ F z := fun H s Q q =>
  ha H s _ fun x F1 H1 fr1 dx => hb F1 fr1.ff H1 fr1.fh _ fun y F2 H2 fr2 dy => hr x y F2 H2 Q fr2.fh (dx.mono fr2.ff) dy fun v F3 H3 fr3 dv => q v F3 H3 ((fr1.trans fr2).trans fr3) dv
theorem ev_I0 {g : Int → Int → V} {i j : Int} {z : PyData} (ha : EvF ta σ F (.int i)) (hb : EvF tb σ F (.int j)) (hz : ∀ F, Dq F (g i j) z) : EvF (tOp (rI0 g) ta tb) σ F z :=
  ev_op ha (fun _ k => hb.mono k) fun x y F1 H1 Q s dx dy q => ⟨i, j, dx.intE, dy.intE, q _ F1 H1 (Fr.refl s) (hz _)⟩
theorem ev_I {C : Int → Int → Prop} {g : Int → Int → V} {i j : Int} {z : PyData} (ha : EvF ta σ F (.int i)) (hb : EvF tb σ F (.int j)) (hc : C i j) (hz : ∀ F, Dq F (g i j) z) : EvF (tOp (rI C g) ta tb) σ F z :=
  ev_op ha (fun _ k => hb.mono k) fun x y F1 H1 Q s dx dy q => ⟨i, j, dx.intE, dy.intE, hc, q _ F1 H1 (Fr.refl s) (hz _)⟩
end

/-! ### operators over data of any depth -/
section
variable {X : Cx}
def rEqQ : R2 := fun x y H Q => ∃ d e, Dq H x d ∧ Dq H y e ∧ d.plain = true ∧ e.plain = true ∧ d.depth ≤ 60 ∧ Q (.bl (PyData.eqv d e)) H
def rNeQ : R2 := fun x y H Q => ∃ d e, Dq H x d ∧ Dq H y e ∧ d.plain = true ∧ e.plain = true ∧ d.depth ≤ 60 ∧ Q (.bl (!PyData.eqv d e)) H
theorem op_eqQ (hu : X.A.units + 64 < cLine) : OpR X (compareOp .Eq) rEqQ := by
  intro pins s σ H x y v u Q I rx ry h
  obtain ⟨d, e, hd, he, sd, se, dp, q⟩ := h
  obtain ⟨as, r1⟩ := Dp.reads I d x v (hd.dp sd) rx
  obtain ⟨bs, r2⟩ := Dp.reads I e y u (he.dp se) ry
  exact SeqAt.eq_plain r1 r2 sd se (Nat.lt_of_le_of_lt (Nat.add_le_add_left (Nat.le_trans (Nat.min_le_left _ _) (Nat.le_trans dp (by decide))) _) hu) ⟨.bl _, H, I, rfl, q⟩
theorem op_neQ (hu : X.A.units + 64 < cLine) : OpR X (compareOp .NotEq) rNeQ := by
  intro pins s σ H x y v u Q I rx ry h
  obtain ⟨d, e, hd, he, sd, se, dp, q⟩ := h
  obtain ⟨as, r1⟩ := Dp.reads I d x v (hd.dp sd) rx
  obtain ⟨bs, r2⟩ := Dp.reads I e y u (he.dp se) ry
  exact SeqAt.ne_plain r1 r2 sd se (Nat.lt_of_le_of_lt (Nat.add_le_add_left (Nat.le_trans (Nat.min_le_left _ _) (Nat.le_trans dp (by decide))) _) hu) ⟨.bl _, H, I, rfl, q⟩
/-- x in a list or tuple -/
def rInQ (neg : Bool) : R2 := fun x y H Q => ∃ d ds, Dq H x d ∧ (Dq H y (.list ds) ∨ Dq H y (.tuple ds)) ∧ d.plain = true ∧ PyData.plainAll ds = true ∧ d.depth ≤ 60 ∧ Q (.bl (if neg then !(ds.any fun z => PyData.eqv z d) else ds.any fun z => PyData.eqv z d)) H
theorem in_room {A : Around} {ds : List PyData} {d : PyData} (hu : A.units + 64 < cLine) (h : d.depth ≤ 60) : A.units + 1 + min (PyData.depthAll ds) d.depth < cLine := by
  have := Nat.min_le_right (PyData.depthAll ds) d.depth
  omega
theorem op_inQ (hu : X.A.units + 64 < cLine) : OpR X (compareOp .In) (rInQ false) := by
  intro pins s σ H x y v u Q I rx ry h
  obtain ⟨d, ds, hd, he, sd, se, dp, q⟩ := h
  obtain ⟨as, r1⟩ := Dp.reads I d x v (hd.dp sd) rx
  rcases he with he | he
  · obtain ⟨bs, r2⟩ := Dp.reads I (.list ds) y u (he.dp (by simpa only [PyData.plain] using se)) ry
    exact SeqAt.in_list_data r2 r1 se sd (in_room hu dp) ⟨.bl _, H, I, rfl, q⟩
  · obtain ⟨bs, r2⟩ := Dp.reads I (.tuple ds) y u (he.dp (by simpa only [PyData.plain] using se)) ry
    exact SeqAt.in_tuple_data r2 r1 se sd (in_room hu dp) ⟨.bl _, H, I, rfl, q⟩
theorem op_niQ (hu : X.A.units + 64 < cLine) : OpR X (compareOp .NotIn) (rInQ true) := by
  intro pins s σ H x y v u Q I rx ry h
  obtain ⟨d, ds, hd, he, sd, se, dp, q⟩ := h
  obtain ⟨as, r1⟩ := Dp.reads I d x v (hd.dp sd) rx
  rcases he with he | he
  · obtain ⟨bs, r2⟩ := Dp.reads I (.list ds) y u (he.dp (by simpa only [PyData.plain] using se)) ry
    exact SeqAt.notIn_list_data r2 r1 se sd (in_room hu dp) ⟨.bl _, H, I, rfl, q⟩
  · obtain ⟨bs, r2⟩ := Dp.reads I (.tuple ds) y u (he.dp (by simpa only [PyData.plain] using se)) ry
    exact SeqAt.notIn_tuple_data r2 r1 se sd (in_room hu dp) ⟨.bl _, H, I, rfl, q⟩
/-- len of a list or tuple (script, too) -/
def rLenQ (K : PySem.W.Frag) : List V → Hp → VK → Prop := fun xs H Q => ∃ p ys, xs = [.ref p] ∧ (SqL K H p ys ∨ SqT K H p ys) ∧ Q (.int ys.length) H
theorem call_lenQ : CallR X (.builtin "len") (rLenQ X.K) := call_len_seq
/-- a ** b of middling size -/
def CPowW (i j : Int) : Prop := 0 ≤ j ∧ (Builtin.Int.intBits i : Int) * j ≤ 2 ^ 27
theorem op_powW : OpR X (binaryOp .Pow) (rI CPowW fun i j => .int (i ^ j.toNat)) := opI fun _ _ _ _ _ _ _ hc q => pow_int hc.1 hc.2 q
end
/-! ### the rules with K told (within a comprehension's block the context is another, K the same) -/
section
variable {X : Cx} {te to : TE} {t : TA} {e o : Expr} {es : List Expr} {T id : String} {name : Str} {r : V → List V → Hp → VK → Prop}
theorem ix_seqK (K : PySem.W.Frag) (h : X.K = K) : IxR X (rIx K) := by subst h; exact ix_seq
theorem sl_listK (K : PySem.W.Frag) (h : X.K = K) : SlR X (rSlL K) := by subst h; exact sl_list
theorem sl_tupK (K : PySem.W.Frag) (h : X.K = K) : SlR X (rSlT K) := by subst h; exact sl_tup
theorem call_lenK (K : PySem.W.Frag) (h : X.K = K) : CallR X (.builtin "len") (rLenQ K) := by subst h; exact call_lenQ
def rListOf (K : PySem.W.Frag) : List V → Hp → VK → Prop := fun xs H Q => ∃ p ys, xs = [.ref p] ∧ (SqL K H p ys ∨ SqT K H p ys) ∧ ∀ l, H l = none → Q (.ref l) (upd H l (.lst ys))
theorem call_listK (K : PySem.W.Frag) (h : X.K = K) : CallR X (.type "list") (rListOf K) := by subst h; exact call_list_of
theorem call_isiK' (K : PySem.W.Frag) (h : X.K = K) : CallR X (.builtin "isinstance") (rIsi K) := by subst h; exact call_isi
theorem pe_revLK (K : PySem.W.Frag) (h : X.K = K) {k : Nat} {p1 p2 p3 pos : Pos} (he : PE X e te) : PE X (.Subscript e (.Slice none none (some (.UnaryOp .USub (.Constant (.int 1) k p1) p2)) p3) pos) (tRevL K te) := by subst h; exact pe_revL he
theorem pi_listK (K : PySem.W.Frag) (h : X.K = K) {tg : Expr} (he : PE X e te) : PI X tg e (iList K te) := by subst h; exact pi_list he
theorem pi_tupK (K : PySem.W.Frag) (h : X.K = K) {tg : Expr} (he : PE X e te) : PI X tg e (iTup K te) := by subst h; exact pi_tup he
theorem bmK (K : PySem.W.Frag) (h : X.K = K) (p : PE X e (tBM X.K T r to t)) : PE X e (tBM K T r to t) := by subst h; exact p
theorem bm0K (K : PySem.W.Frag) (h : X.K = K) (p : PE X e (tBM0 X.K T r to)) : PE X e (tBM0 K T r to) := by subst h; exact p
theorem fldK (K : PySem.W.Frag) (h : X.K = K) {f : Str} (p : PE X e (tFld X.K te f)) : PE X e (tFld K te f) := by subst h; exact p
end
section
variable {K : PySem.W.Frag} {σ : L2.St} {F F1 H : Hp} {ta tb te tx : TE} {t u : TT} {d e : PyData} {ds es : List PyData} {v : V}
theorem ev_neg {i : Int} (ha : EvF ta σ F (.int i)) : EvF (tUn (rU fun i => .int (-i)) ta) σ F (.int (-i)) := fun H s Q q => ha H s _ fun x F1 H1 f1 dx => ⟨i, dx.intE, q _ F1 H1 f1 (.int _)⟩
theorem ev_eq (ha : EvF ta σ F d) (hb : EvF tb σ F e) (pd : d.plain = true) (pe : e.plain = true) (dp : d.depth ≤ 60) : EvF (tOp rEqQ ta tb) σ F (.bool (PyData.eqv d e)) :=
  ev_op ha (fun _ k => hb.mono k) fun x y F1 H1 Q s dx dy q => ⟨d, e, dx.mono s, dy.mono s, pd, pe, dp, q _ F1 H1 (Fr.refl s) (.bl _)⟩
theorem ev_ne (ha : EvF ta σ F d) (hb : EvF tb σ F e) (pd : d.plain = true) (pe : e.plain = true) (dp : d.depth ≤ 60) : EvF (tOp rNeQ ta tb) σ F (.bool (!PyData.eqv d e)) :=
  ev_op ha (fun _ k => hb.mono k) fun x y F1 H1 Q s dx dy q => ⟨d, e, dx.mono s, dy.mono s, pd, pe, dp, q _ F1 H1 (Fr.refl s) (.bl _)⟩
theorem ev_in {neg : Bool} (ha : EvF ta σ F d) (hb : EvF tb σ F e) (he : e = .list ds ∨ e = .tuple ds) (pd : d.plain = true) (pe : PyData.plainAll ds = true) (dp : d.depth ≤ 60) :
    EvF (tOp (rInQ neg) ta tb) σ F (.bool (if neg then !(ds.any fun z => PyData.eqv z d) else ds.any fun z => PyData.eqv z d)) :=
  ev_op ha (fun _ k => hb.mono k) fun x y F1 H1 Q s dx dy q => ⟨d, ds, dx.mono s, he.imp (fun z => by rw [z] at dy; exact dy.mono s) (fun z => by rw [z] at dy; exact dy.mono s), pd, pe, dp, q _ F1 H1 (Fr.refl s) (.bl _)⟩
theorem ev_ixL {i : Int} (ha : EvF ta σ F (.list ds)) (hb : EvF tb σ F (.int i)) (hi : atI ds i = some d) : EvF (tOp (rIx K) ta tb) σ F d :=
  ev_op ha (fun _ k => hb.mono k) fun x y F1 H1 Q s dx dy q => by
    obtain ⟨a, xs, rfl, ex, dv⟩ := dx.lstE
    obtain ⟨j, h1, h2⟩ : ∃ j, ixN xs.length i = some j ∧ ds[j]? = some d := by
      unfold atI at hi
      rw [← dv.length] at hi
      cases z : ixN xs.length i with
      | none => rw [z] at hi; cases hi
      | some j => rw [z] at hi; exact ⟨j, rfl, hi⟩
    obtain ⟨v, hv, dv'⟩ := dv.get h2
    exact .inl ⟨a, xs, i, v, rfl, dy.intE, SqL.of (s _ _ ex), by unfold atI; rw [h1]; exact hv, q v F1 H1 (Fr.refl s) dv'⟩
theorem ev_ixT {i : Int} (ha : EvF ta σ F (.tuple ds)) (hb : EvF tb σ F (.int i)) (hi : atI ds i = some d) : EvF (tOp (rIx K) ta tb) σ F d :=
  ev_op ha (fun _ k => hb.mono k) fun x y F1 H1 Q s dx dy q => by
    obtain ⟨a, xs, rfl, ex, dv⟩ := dx.tupE
    obtain ⟨j, h1, h2⟩ : ∃ j, ixN xs.length i = some j ∧ ds[j]? = some d := by
      unfold atI at hi
      rw [← dv.length] at hi
      cases z : ixN xs.length i with
      | none => rw [z] at hi; cases hi
      | some j => rw [z] at hi; exact ⟨j, rfl, hi⟩
    obtain ⟨v, hv, dv'⟩ := dv.get h2
    exact .inr (.inl ⟨a, xs, i, v, rfl, dy.intE, SqT.of (s _ _ ex), by unfold atI; rw [h1]; exact hv, q v F1 H1 (Fr.refl s) dv'⟩)
theorem ei_none : EvI tNoPart σ F none := fun H s Q q => q F H (Fr.refl s)
theorem EvF.go (h : EvF te σ F d) {Q : VK} (s : Same F H) (q : ∀ v F2 H2, Fr M0 F H F2 H2 → Dq F2 v d → Q v H2) : te σ H Q := h H s Q q
theorem ei_some {i : Int} (h : EvF te σ F (.int i)) : EvI (tPart te) σ F (some i) := fun H s Q q => h H s _ fun v F2 H2 fr dv => ⟨i, dv.intE, q F2 H2 fr⟩
theorem EvI.mono {to : TO} {o : Option Int} (k : Same F F1) (h : EvI to σ F o) : EvI to σ F1 o := fun H s Q q => h H (fun a o e => s a o (k a o e)) Q fun F2 H2 fr =>
  q F1 H2 ⟨fun _ _ e => e, fun a o e => fr.hh _ _ (s _ _ e) fun z => z, fr.hh, fr.st, fun _ _ e _ => e⟩
def cutD (xs : List PyData) (lo hi : Option Int) : List PyData := (xs.drop (HT.sIx xs.length 0 lo)).take (HT.sIx xs.length xs.length hi - HT.sIx xs.length 0 lo)
theorem DqAll.cut {vs : List V} (h : DqAll F vs ds) (lo hi : Option Int) : DqAll F (cutV vs lo hi) (cutD ds lo hi) := by
  unfold cutV cutD
  rw [h.length]
  exact (h.drop _).take _
theorem eo_slL {tl th : TO} {lo hi : Option Int} (ha : EvF ta σ F (.list ds)) (hl : EvI tl σ F lo) (hh : EvI th σ F hi) : EvO (tSl (rSlL K) ta tl th) σ F (cutD ds lo hi) := fun H s Q q =>
  ha H s _ fun x F1 H1 f1 dx => (hl.mono f1.ff) H1 f1.fh _ fun F2 H2 f2 => (hh.mono (fun a o e => f2.ff _ _ (f1.ff _ _ e))) H2 f2.fh _ fun F3 H3 f3 => by
    obtain ⟨a, xs, rfl, ex, dv⟩ := dx.lstE
    have f := (f1.trans f2).trans f3
    exact ⟨a, xs, rfl, SqL.of (f3.fh _ _ (f3.ff _ _ (f2.ff _ _ ex))), fun p np => q p _ F3 _ (f.trans (Fr.own f3.fh np)) (f.st _ np) (f3.fh.free np) upd_same ((dv.mono fun a o e => f3.ff _ _ (f2.ff _ _ e)).cut lo hi)⟩
/-- a tuple's part, not the whole -/
theorem ev_slT {tl th : TO} {lo hi : Option Int} (ha : EvF ta σ F (.tuple ds)) (hl : EvI tl σ F lo) (hh : EvI th σ F hi) (hw : ¬ (HT.sIx ds.length 0 lo = 0 ∧ HT.sIx ds.length ds.length hi = ds.length)) : EvF (tSl (rSlT K) ta tl th) σ F (.tuple (cutD ds lo hi)) := fun H s Q q =>
  ha H s _ fun x F1 H1 f1 dx => (hl.mono f1.ff) H1 f1.fh _ fun F2 H2 f2 => (hh.mono (fun a o e => f2.ff _ _ (f1.ff _ _ e))) H2 f2.fh _ fun F3 H3 f3 => by
    obtain ⟨a, xs, rfl, ex, dv⟩ := dx.tupE
    have f := (f1.trans f2).trans f3
    refine ⟨a, xs, rfl, SqT.of (f3.fh _ _ (f3.ff _ _ (f2.ff _ _ ex))), by rw [dv.length]; exact hw, fun p np => ?_⟩
    have fn := Fr.new (M := M0) (o := .tup (cutV xs lo hi)) f3.fh np
    exact q _ _ _ (f.trans fn) (.tup upd_same (((dv.mono fun a o e => f3.ff _ _ (f2.ff _ _ e)).cut lo hi).mono fn.ff))
theorem ea_nil : EvA tNil σ F [] := fun H s Q q => q [] F H (Fr.refl s) .nil
theorem EvA.mono {ta : TA} (k : Same F F1) (h : EvA ta σ F ds) : EvA ta σ F1 ds := fun H s Q q => h H (fun a o e => s a o (k a o e)) Q fun v F2 H2 fr dv => by
  have fr' : Fr M0 F1 H (fun a => match F1 a with | some o => some o | none => F2 a) H2 := by
    refine ⟨fun a o e => ?_, fun a o e => ?_, fr.hh, fr.st, fun a o e1 e2 => ?_⟩
    · show (match F1 a with | some o => some o | none => F2 a) = some o
      rw [e]
    · have e : (match F1 a with | some o => some o | none => F2 a) = some o := e
      cases z : F1 a with
      | some u => rw [z] at e; exact fr.hh _ _ (s _ _ (z.trans e)) fun z => z
      | none => rw [z] at e; exact fr.fh _ _ e
    · show (match F1 a with | some o => some o | none => F2 a) = none
      rw [e1]
      refine fr.nw a o ?_ e2
      cases z : F a with
      | none => rfl
      | some u => rw [k _ _ z] at e1; cases e1
  refine q v _ H2 fr' (dv.mono fun a o e => ?_)
  show (match F1 a with | some o => some o | none => F2 a) = some o
  cases z : F1 a with
  | none => exact e
  | some u =>
    show some u = some o
    have h1 := fr.fh _ _ e
    rw [fr.hh _ _ (s _ _ z) fun z => z] at h1
    exact h1
theorem ea_cons {ta : TA} (he : EvF te σ F d) (ha : EvA ta σ F ds) : EvA (tCons te ta) σ F (d :: ds) := fun H s Q q =>
  he H s _ fun v F1 H1 f1 dv => (ha.mono f1.ff) H1 f1.fh _ fun vs F2 H2 f2 dvs => q _ F2 H2 (f1.trans f2) (.cons (dv.mono f2.ff) dvs)
theorem ev_tup {ta : TA} (h : EvA ta σ F ds) (hl : ds.length ≤ 10000) : EvF (tTup ta) σ F (.tuple ds) := fun H s Q q =>
  h H s _ fun vs F1 H1 f1 dvs => ⟨by rw [dvs.length]; exact Nat.le_trans hl (by decide), fun p np => by
    have fn := Fr.new (M := M0) (o := .tup vs) f1.fh np
    exact q _ _ _ (f1.trans fn) (.tup upd_same (dvs.mono fn.ff))⟩
theorem eo_lst {ta : TA} (h : EvA ta σ F ds) (hl : ds.length ≤ 10000) : EvO (tLst ta) σ F ds := fun H s Q q =>
  h H s _ fun vs F1 H1 f1 dvs => ⟨by rw [dvs.length]; exact Nat.le_trans hl (by decide), fun p np => q p vs F1 _ (f1.trans (Fr.own f1.fh np)) (f1.st _ np) (f1.fh.free np) upd_same dvs⟩
theorem eo_cat (ha : EvF ta σ F (.list ds)) (hb : EvF tb σ F (.list es)) (hl : ds.length + es.length ≤ 100000) : EvO (tOp rCat ta tb) σ F (ds ++ es) := fun H s Q q =>
  ha H s _ fun x F1 H1 f1 dx => (hb.mono f1.ff) H1 f1.fh _ fun y F2 H2 f2 dy => by
    obtain ⟨a, xs, rfl, ex, dv⟩ := dx.lstE
    obtain ⟨b, ys, rfl, ey, dw⟩ := dy.lstE
    have f := f1.trans f2
    exact ⟨a, b, xs, ys, rfl, rfl, f2.fh _ _ (f2.ff _ _ ex), f2.fh _ _ ey, by rw [dv.length, dw.length]; exact Nat.le_trans hl (by decide),
      fun p np => q p _ F2 _ (f.trans (Fr.own f2.fh np)) (f.st _ np) (f2.fh.free np) upd_same ((dv.mono f2.ff).append dw)⟩
theorem eo_rev (ha : EvF ta σ F (.list ds)) : EvO (tRevL K ta) σ F ds.reverse := fun H s Q q =>
  ha H s _ fun x F1 H1 f1 dx => by
    obtain ⟨a, xs, rfl, ex, dv⟩ := dx.lstE
    exact ⟨a, xs, rfl, SqL.of (f1.fh _ _ ex), fun p np => q p _ F1 _ (f1.trans (Fr.own f1.fh np)) (f1.st _ np) (f1.fh.free np) upd_same dv.reverse⟩
theorem eo_list (ha : EvF ta σ F (.list ds)) : EvO (tCB (rListOf K) (tCons ta tNil)) σ F ds := fun H s Q q =>
  ha H s _ fun x F1 H1 f1 dx => by
    obtain ⟨a, xs, rfl, ex, dv⟩ := dx.lstE
    exact ⟨a, xs, rfl, .inl (SqL.of (f1.fh _ _ ex)), fun p np => q p _ F1 _ (f1.trans (Fr.own f1.fh np)) (f1.st _ np) (f1.fh.free np) upd_same dv⟩
theorem ev_lenL (ha : EvF ta σ F (.list ds)) : EvF (tCB (rLenQ K) (tCons ta tNil)) σ F (.int (ds.length : Int)) := fun H s Q q =>
  ha H s _ fun x F1 H1 f1 dx => by
    obtain ⟨a, xs, rfl, ex, dv⟩ := dx.lstE
    exact ⟨a, xs, rfl, .inl (SqL.of (f1.fh _ _ ex)), by rw [dv.length]; exact q _ F1 H1 f1 (.int _)⟩
theorem ev_lenT (ha : EvF ta σ F (.tuple ds)) : EvF (tCB (rLenQ K) (tCons ta tNil)) σ F (.int (ds.length : Int)) := fun H s Q q =>
  ha H s _ fun x F1 H1 f1 dx => by
    obtain ⟨a, xs, rfl, ex, dv⟩ := dx.tupE
    exact ⟨a, xs, rfl, .inr (SqT.of (f1.fh _ _ ex)), by rw [dv.length]; exact q _ F1 H1 f1 (.int _)⟩
/-! tests -/
theorem et_test {b : Bool} (h : EvF te σ F (.bool b)) : EvT (tTest te) σ F b := fun H s Q q => h H s _ fun v F2 H2 fr dv => ⟨b, dv.blE, q F2 H2 fr⟩
theorem et_B {b : Bool} (h : EvF te σ F (.bool b)) : EvT (tB te) σ F b := fun H s Q q => h H s _ fun v F2 H2 fr dv => ⟨b, dv.blE, q F2 H2 fr⟩
theorem EvT.mono {b : Bool} (k : Same F F1) (h : EvT t σ F b) : EvT t σ F1 b := fun H s Q q => h H (fun a o e => s a o (k a o e)) Q fun F2 H2 fr =>
  q F1 H2 ⟨fun _ _ e => e, fun a o e => fr.hh _ _ (s _ _ e) fun z => z, fr.hh, fr.st, fun _ _ e _ => e⟩
theorem et_not {b : Bool} (h : EvT t σ F b) : EvT (tNot t) σ F (!b) := fun H s Q q => h H s _ fun F2 H2 fr => q F2 H2 fr
theorem et_and {a b : Bool} (h1 : EvT t σ F a) (h2 : a = true → EvT u σ F b) : EvT (tAnd t u) σ F (a && b) := fun H s Q q => h1 H s _ fun F1 H1 f1 => by
  cases a with
  | true => exact ((h2 rfl).mono f1.ff) H1 f1.fh _ fun F2 H2 f2 => q F2 H2 (f1.trans f2)
  | false => exact q F1 H1 f1
theorem et_or {a b : Bool} (h1 : EvT t σ F a) (h2 : a = false → EvT u σ F b) : EvT (tOr t u) σ F (a || b) := fun H s Q q => h1 H s _ fun F1 H1 f1 => by
  cases a with
  | true => exact q F1 H1 f1
  | false => exact ((h2 rfl).mono f1.ff) H1 f1.fh _ fun F2 H2 f2 => q F2 H2 (f1.trans f2)
theorem EvF.is {d' : PyData} (h : EvF te σ F d) (e : d = d') : EvF te σ F d' := e ▸ h
theorem EvO.is {ds' : List PyData} (h : EvO te σ F ds) (e : ds = ds') : EvO te σ F ds' := e ▸ h
theorem EvT.is {b b' : Bool} (h : EvT t σ F b) (e : b = b') : EvT t σ F b' := e ▸ h
/-! a comprehension over a list: which items, each what -/
def gathered (ds : List PyData) (f : PyData → Bool) (g : PyData → PyData) : List PyData := (ds.filter f).map g
theorem eo_lcL {tl : TE} {j : Nat} {vs : List Nat} (f : PyData → Bool) (g : PyData → PyData) (h : EvF tl σ F (.list ds)) (hz : ds.length ≤ 100000) (hw : ∀ x, wipe ((wipe σ vs).set j (some x)) vs = wipe σ vs)
    (ht : ∀ (d : PyData) (x : V) F1, d ∈ ds → Same F F1 → Dq F1 x d → EvT t ((wipe σ vs).set j (some x)) F1 (f d))
    (he : ∀ (d : PyData) (x : V) F1, d ∈ ds → Same F F1 → Dq F1 x d → f d = true → EvF te ((wipe σ vs).set j (some x)) F1 (g d)) :
    EvO (tLc (iList K tl) (gName j) t te vs) σ F (gathered ds f g) := fun H0 s Q q => h H0 s _ fun x F1 H1 f1 dx => by
  obtain ⟨a, xs, rfl, ex, dv⟩ := dx.lstE
  refine ⟨a, rfl, ⟨xs, SqL.of (f1.fh _ _ ex)⟩, fun Dl nD => ?_⟩
  refine lc_list (xs := xs) (fun i H' => ∃ F' vs', Fr (fun a => a = Dl) F1 (upd H1 Dl (.lst [])) F' H' ∧ H' Dl = some (.lst vs') ∧ DqAll F' vs' (gathered (ds.take i) f g)) ?_ ?_ ?_ ?_
  · exact ⟨F1, [], Fr.refl (fun a o e => by rw [upd_ne (ne_of_none (f1.fh _ _ e) nD)]; exact f1.fh _ _ e), upd_same, .nil⟩
  · rintro i H' _ ⟨F', vs', fr, _, _⟩
    exact SqL.of (fr.fh _ _ (fr.ff _ _ ex))
  · rintro i x H' hi ⟨F', vs', fr, hD, dvs⟩
    refine ⟨hw x, ?_⟩
    obtain ⟨d, hd, dxd⟩ := dv.getV hi
    have hmem : d ∈ ds := List.mem_of_getElem? hd
    have sF : Same F F' := fun a o e => fr.ff _ _ (f1.ff _ _ e)
    have dx' : Dq F' x d := dxd.mono fr.ff
    have nDF : F' Dl = none := fr.nw Dl _ (f1.fh.free nD) upd_same
    have hlt := (List.getElem?_eq_some_iff.mp hd).1
    have htk : ds.take (i + 1) = ds.take i ++ [d] := by rw [List.take_add_one, hd]; rfl
    refine ht d x F' hmem sF dx' H' fr.fh _ fun F2 H2 f2 => ?_
    have hD2 : H2 Dl = some (.lst vs') := f2.hh _ _ hD fun z => z
    have nD2 : F2 Dl = none := f2.nw _ _ nDF hD
    cases hf : f d with
    | true =>
      show te _ H2 _
      refine he d x F2 hmem (fun a o e => f2.ff _ _ (sF _ _ e)) (dx'.mono f2.ff) hf H2 f2.fh _ fun v F3 H3 f3 dv3 => ?_
      have hD3 : H3 Dl = some (.lst vs') := f3.hh _ _ hD2 fun z => z
      have nD3 : F3 Dl = none := f3.nw _ _ nD2 hD2
      have hl : vs'.length ≤ i := by
        rw [dvs.length]
        unfold gathered
        rw [List.length_map]
        exact Nat.le_trans (List.length_filter_le _ _) (List.length_take_le _ _)
      refine ⟨vs', hD3, Nat.lt_of_le_of_lt hl (Nat.lt_of_lt_of_le hlt (Nat.le_trans hz (by decide))), F3, vs' ++ [v], ?_, upd_same, ?_⟩
      · exact ((fr.trans f2.up).trans f3.up).trans (Fr.put f3.fh nD3 rfl)
      · have e1 : gathered (ds.take (i + 1)) f g = gathered (ds.take i) f g ++ [g d] := by
          unfold gathered
          rw [htk, List.filter_append, List.map_append, List.filter_cons, if_pos hf]
          rfl
        rw [e1]
        exact (dvs.mono fun a o e => f3.ff _ _ (f2.ff _ _ e)).append (.cons dv3 .nil)
    | false =>
      show ∃ F' vs', _
      refine ⟨F2, vs', fr.trans f2.up, hD2, ?_⟩
      have e1 : gathered (ds.take (i + 1)) f g = gathered (ds.take i) f g := by
        unfold gathered
        rw [htk, List.filter_append, List.map_append, List.filter_cons, if_neg (by rw [hf]; decide)]
        show _ ++ [] = _
        rw [List.append_nil]
      rw [e1]
      exact dvs.mono f2.ff
  · rintro H' ⟨F', vs', fr, hD, dvs⟩
    have e : ds.take xs.length = ds := List.take_of_length_le (by rw [dv.length]; exact Nat.le_refl _)
    rw [e] at dvs
    refine q Dl vs' F' H' (f1.trans ⟨fr.ff, fr.fh, fun a o e _ => ?_, fun a e => ?_, fun a o e1 e2 => ?_⟩) (f1.st _ nD) (fr.nw Dl _ (f1.fh.free nD) upd_same) hD dvs
    · exact fr.hh a o (by rw [upd_ne (ne_of_none e nD)]; exact e) (ne_of_none e nD)
    · have := fr.st a e
      by_cases z : a = Dl
      · subst z; exact nD
      · rw [upd_ne z] at this; exact this
    · exact fr.nw a o e1 (by rw [upd_ne (ne_of_none e2 nD)]; exact e2)
end

section
variable {M : Addr → Prop} {F H F2 H2 : Hp} {K : PySem.W.Frag}
/-- what was frozen on the way is left aside -/
theorem Fr.drop (a : Fr M F H F2 H2) : Fr M F H F H2 := ⟨fun _ _ e => e, fun x o e => a.fh _ _ (a.ff _ _ e), a.hh, a.st, fun _ _ e _ => e⟩
end
/-! ### slices -/
theorem sIx_neg1 (n d : Nat) (h : 0 < n) : HT.sIx n d (some (-1)) = n - 1 := by
  show (if (-1 : Int) < 0 then ((-1 : Int) + (n : Int)).toNat else min (-1 : Int).toNat n) = n - 1
  rw [if_pos (by decide)]
  omega
theorem take_min {α : Type} (xs : List α) (k : Nat) : xs.take (min k xs.length) = xs.take k := by
  by_cases h : k ≤ xs.length
  · rw [Nat.min_eq_left h]
  · rw [Nat.min_eq_right (by omega), List.take_length, List.take_of_length_le (by omega)]
theorem cutV_to (xs : List V) (k : Nat) : cutV xs none (some (k : Int)) = xs.take k := by
  unfold cutV
  rw [HT.sIx_none, HT.sIx_nat, List.drop_zero, Nat.sub_zero, take_min]
theorem cutV_from (xs : List V) (k : Nat) : cutV xs (some (k : Int)) none = xs.drop k := by
  unfold cutV
  rw [HT.sIx_none, HT.sIx_nat]
  by_cases h : k ≤ xs.length
  · rw [Nat.min_eq_left h, List.take_of_length_le (by rw [List.length_drop]; exact Nat.le_refl _)]
  · rw [Nat.min_eq_right (by omega), List.drop_length, List.drop_of_length_le (by omega), List.take_nil]
theorem cutD_to (xs : List PyData) (k : Nat) : cutD xs none (some (k : Int)) = xs.take k := by
  unfold cutD
  rw [HT.sIx_none, HT.sIx_nat, List.drop_zero, Nat.sub_zero, take_min]
theorem cutD_from (xs : List PyData) (k : Nat) : cutD xs (some (k : Int)) none = xs.drop k := by
  unfold cutD
  rw [HT.sIx_none, HT.sIx_nat]
  by_cases h : k ≤ xs.length
  · rw [Nat.min_eq_left h, List.take_of_length_le (by rw [List.length_drop]; exact Nat.le_refl _)]
  · rw [Nat.min_eq_right (by omega), List.drop_length, List.drop_of_length_le (by omega), List.take_nil]
/-- whatever the bounds, a slice of typed things is one -/
theorem cutD_map {α : Type} (t : α → PyData) (xs : List α) (lo hi : Option Int) : ∃ i k, cutD (xs.map t) lo hi = (((xs.drop i).take k).map t) := ⟨HT.sIx xs.length 0 lo, HT.sIx xs.length xs.length hi - HT.sIx xs.length 0 lo, by
  unfold cutD
  rw [List.length_map, List.map_take, List.map_drop]⟩
/-! ### equality of typed data -/
theorem eqvAll_map {α : Type} [DecidableEq α] (t : α → PyData) (ht : ∀ a b, PyData.eqv (t a) (t b) = decide (a = b)) : ∀ xs ys : List α, PyData.eqvAll (xs.map t) (ys.map t) = decide (xs = ys)
  | [], [] => by simp only [List.map_nil, PyData.eqvAll, decide_true]
  | [], _ :: _ => by simp [PyData.eqvAll]
  | _ :: _, [] => by simp [PyData.eqvAll]
  | x :: xs, y :: ys => by
    rw [List.map_cons, List.map_cons, PyData.eqvAll, ht, eqvAll_map t ht xs ys, ← Bool.decide_and]
    exact decide_eq_decide.mpr (by rw [List.cons.injEq])
theorem eqv_list {α : Type} [DecidableEq α] (t : α → PyData) (ht : ∀ a b, PyData.eqv (t a) (t b) = decide (a = b)) (xs ys : List α) : PyData.eqv (.list (xs.map t)) (.list (ys.map t)) = decide (xs = ys) := by
  simp only [PyData.eqv]
  exact eqvAll_map t ht xs ys
theorem eqv_str (a b : Str) : PyData.eqv (.str a) (.str b) = decide (a = b) := by
  simp only [PyData.eqv]
  by_cases h : a = b
  · subst h; simp
  · rw [decide_eq_false h]; exact beq_eq_false_iff_ne.mpr h
theorem perm_map_ex {α β : Type} (f : α → β) (g : β → α) (hg : ∀ a, g (f a) = a) {l : List β} {xs : List α} (h : l.Perm (xs.map f)) : ∃ l' : List α, l = l'.map f ∧ l'.Perm xs := by
  refine ⟨l.map g, ?_, ?_⟩
  · have : ∀ b ∈ l, f (g b) = b := fun b hb => by
      obtain ⟨a, _, rfl⟩ := List.mem_map.mp (h.mem_iff.mp hb)
      rw [hg]
    rw [List.map_map]
    conv => lhs; rw [← List.map_id l]
    exact List.map_congr_left fun b hb => (this b hb).symm
  · have h2 := h.map g
    rw [List.map_map] at h2
    have e : xs.map (g ∘ f) = xs := by
      conv => rhs; rw [← List.map_id xs]
      exact List.map_congr_left fun a _ => hg a
    rw [e] at h2
    exact h2

section
variable {F H H2 : Hp} {p : Addr}
theorem Fr.kept (s : Same F H) (n : F p = none) (kp : ∀ x o, H x = some o → x ≠ p → H2 x = some o) (st : ∀ x, H2 x = none → H x = none) : Fr (fun a => a = p) F H F H2 :=
  ⟨fun _ _ e => e, fun a o e => kp a o (s _ _ e) (fun z => by subst z; rw [n] at e; cases e), fun a o e n => kp a o e n, st, fun _ _ e _ => e⟩
end

/-! ### statements -/
section
variable {K : PySem.W.Frag} {σ : L2.St} {F H : Hp} {te : TE} {t : TT} {tu tw tz : TS} {d : PyData} {ds : List PyData} {v : V} {D : Ends} {i : Nat} {b : Bool}
/-- an assignment, its value by hand -/
theorem s_wp (h : te σ H fun v H1 => tz D (σ.set i (some v)) H1) : tSeq (tAsg te (gName i)) tz D σ H := h
theorem s_asg (h : EvF te σ F d) (s : Same F H) (k : ∀ v F1 H1, Fr M0 F H F1 H1 → Dq F1 v d → tz D (σ.set i (some v)) H1) : tSeq (tAsg te (gName i)) tz D σ H := h H s _ k
theorem s_asgO (h : EvO te σ F ds) (s : Same F H) (k : ∀ p vs F1 H1, Fr M0 F H F1 H1 → H p = none → F1 p = none → H1 p = some (.lst vs) → DqAll F1 vs ds → tz D (σ.set i (some (.ref p))) H1) : tSeq (tAsg te (gName i)) tz D σ H := h H s _ k
theorem s_if (h : EvT t σ F b) (s : Same F H) (k1 : b = true → ∀ F1 H1, Fr M0 F H F1 H1 → tu { D with nx := tz D } σ H1) (k2 : b = false → ∀ F1 H1, Fr M0 F H F1 H1 → tw { D with nx := tz D } σ H1) : tSeq (tIfS t tu tw) tz D σ H := h H s _ fun F1 H1 f1 => by
  cases b with
  | true => exact k1 rfl F1 H1 f1
  | false => exact k2 rfl F1 H1 f1
/-- an if without an else -/
theorem s_when (h : EvT t σ F b) (s : Same F H) (k1 : b = true → ∀ F1 H1, Fr M0 F H F1 H1 → tu { D with nx := tz D } σ H1) (k2 : b = false → ∀ F1 H1, Fr M0 F H F1 H1 → tz D σ H1) : tSeq (tIfS t tu tNext) tz D σ H := h H s _ fun F1 H1 f1 => by
  cases b with
  | true => exact k1 rfl F1 H1 f1
  | false => exact k2 rfl F1 H1 f1
theorem s_whenE (h : EvT t σ F b) (s : Same F H) (k1 : b = true → ∀ F1 H1, Fr M0 F H F1 H1 → tu D σ H1) (k2 : b = false → ∀ F1 H1, Fr M0 F H F1 H1 → D.nx σ H1) : tIfS t tu tNext D σ H := h H s _ fun F1 H1 f1 => by
  cases b with
  | true => exact k1 rfl F1 H1 f1
  | false => exact k2 rfl F1 H1 f1
theorem s_ret (h : EvF te σ F d) (s : Same F H) (k : ∀ v F1 H1, Fr M0 F H F1 H1 → Dq F1 v d → D.rt v H1) : tRet te D σ H := h H s _ k
theorem s_retO (h : EvO te σ F ds) (s : Same F H) (k : ∀ p vs F1 H1, Fr M0 F H F1 H1 → H p = none → F1 p = none → H1 p = some (.lst vs) → DqAll F1 vs ds → D.rt (.ref p) H1) : tRet te D σ H := h H s _ k
theorem s_drop (h : te σ H fun _ H1 => tz D σ H1) : tSeq (tDrop te) tz D σ H := h
end

/-! ### isinstance, is, loops -/
def tyName : PyData → String
  | .none => "NoneType"
  | .bool _ => "bool"
  | .int _ => "int"
  | .str _ => "str"
  | .list _ => "list"
  | .tuple _ => "tuple"
  | .dict _ => "dict"
theorem Dq.tyX {K : PySem.W.Frag} {H : Hp} {v : V} {d : PyData} (h : Dq H v d) : TyX K H v (.type (tyName d)) := by
  cases h with
  | non => exact .base .non
  | bl b => exact .base (.bl b)
  | int i => exact .base (.int i)
  | str x => exact .base (.str x)
  | lst e h => exact .base (.lst e)
  | tup e h => exact .base (.tup e)
  | dK e h => exact .base (.dK e)
  | dT e h => exact .base (.dT e)
section
variable {K : PySem.W.Frag} {σ : L2.St} {F H : Hp} {ta tb te tl : TE} {tA : TA} {t : TT} {tu tw tz tbd : TS} {d : PyData} {ds : List PyData} {v : V} {D : Ends} {i j : Nat} {b : Bool}
theorem ev_isi {T : String} (ha : EvF ta σ F d) (hk : kitB (tyName d) T = some b) : EvF (tCB (rIsi K) (tCons ta (tCons (tC (.ty T)) tNil))) σ F (.bool b) := fun H s Q q =>
  ha H s _ fun x F1 H1 f1 dx => ⟨x, .ty T, .type (tyName d), .type T, b, rfl, .ty T, (dx.mono f1.fh).tyX, kit_ty hk, q _ F1 H1 f1 (.bl b)⟩
theorem ev_isBl {a b : Bool} (ha : EvF ta σ F (.bool a)) (hb : EvF tb σ F (.bool b)) : EvF (tOp rIsB ta tb) σ F (.bool (decide (a = b))) :=
  ev_op ha (fun _ k => hb.mono k) fun x y F1 H1 Q s dx dy q => ⟨a, b, dx.blE, dy.blE, q _ F1 H1 (Fr.refl s) (.bl _)⟩
theorem ev_notBl {a b : Bool} (ha : EvF ta σ F (.bool a)) (hb : EvF tb σ F (.bool b)) : EvF (tOp rNotB ta tb) σ F (.bool (!decide (a = b))) :=
  ev_op ha (fun _ k => hb.mono k) fun x y F1 H1 Q s dx dy q => ⟨a, b, dx.blE, dy.blE, q _ F1 H1 (Fr.refl s) (.bl _)⟩
/-- for x in a list of data -/
theorem s_forL (h : EvF tl σ F (.list ds)) (s : Same F H)
    (k : ∀ a xs F1 H1, Fr M0 F H F1 H1 → F1 a = some (.lst xs) → DqAll F1 xs ds → ∃ Pv : Nat → L2.St → Hp → Prop, Pv 0 σ H1 ∧ (∀ i σ' H', Pv i σ' H' → Same F1 H') ∧
      (∀ i d x σ' H', ds[i]? = some d → Dq F1 x d → Pv i σ' H' → tbd { D with nx := Pv (i + 1), ct := Pv (i + 1), bk := tz D } (σ'.set j (some x)) H') ∧ (∀ σ' H', Pv ds.length σ' H' → tz D σ' H')) :
    tSeq (tFor (iList K tl) (gName j) tbd) tz D σ H := h H s _ fun x F1 H1 f1 dx => by
  obtain ⟨a, xs, rfl, ex, dv⟩ := dx.lstE
  obtain ⟨Pv, h0, hs, ht, he⟩ := k a xs F1 H1 f1 ex dv
  refine ⟨a, rfl, ⟨xs, SqL.of (f1.fh _ _ ex)⟩, for_list (xs := xs) (D := { D with nx := tz D }) Pv h0 (fun i σ' H' _ p => SqL.of (hs i σ' H' p _ _ ex)) (fun i x σ' H' hi p => ?_) (fun σ' H' p => ?_)⟩
  · obtain ⟨d, hd, dd⟩ := dv.getV hi
    exact ht i d x σ' H' hd dd p
  · rw [dv.length] at p
    exact he σ' H' p
/-- for k in range(n) -/
theorem s_forR {n : Int} (h : EvA tA σ F [.int n]) (hn : n < 2 ^ 62 ∧ -(2 ^ 62) ≤ n) (s : Same F H)
    (k : ∀ F1 H1, Fr M0 F H F1 H1 → ∃ Pv : Nat → L2.St → Hp → Prop, Pv 0 σ H1 ∧
      (∀ (i : Nat) σ' H', (i : Int) < n → Pv i σ' H' → tbd { D with nx := Pv (i + 1), ct := Pv (i + 1), bk := tz D } (σ'.set j (some (.int (i : Int)))) H') ∧ (∀ σ' H', Pv n.toNat σ' H' → tz D σ' H')) :
    tSeq (tFor (iRng1 tA) (gName j) tbd) tz D σ H := h H s _ fun vs F1 H1 f1 dv => by
  cases dv with
  | cons d1 t =>
    cases t
    cases d1.intE
    obtain ⟨Pv, h0, ht, he⟩ := k F1 H1 f1
    refine ⟨n, rfl, hn.2, hn.1, for_range (D := { D with nx := tz D }) Pv h0 (fun i σ' H' hi p => ?_) he⟩
    have e : (0 : Int) + (i : Int) = (i : Int) := Int.zero_add _
    show tbd _ (σ'.set j (some (.int ((0 : Int) + (i : Int))))) H'
    rw [e]
    exact ht i σ' H' (by omega) p
end

section
variable {M N : Addr → Prop} {F H H1 F2 H2 : Hp} {D : Addr} {o : HO}
/-- an object that was new, and was changed since -/
theorem Fr.unown (f : Fr M F (upd H1 D o) F2 H2) (n : H1 D = none) (h : ∀ a, M a → a = D ∨ N a) : Fr N F H1 F2 H2 := by
  refine ⟨f.ff, f.fh, fun a u e nn => ?_, fun a e => ?_, fun a u e1 e2 => ?_⟩
  · have ne := ne_of_none e n
    exact f.hh a u (by rw [upd_ne ne]; exact e) fun z => (h a z).elim ne nn
  · have := f.st a e
    by_cases z : a = D
    · rw [z]; exact n
    · rw [upd_ne z] at this; exact this
  · exact f.nw a u e1 (by rw [upd_ne (ne_of_none e2 n)]; exact e2)
end
end Ly

set_option Elab.async false
set_option linter.all false
set_option maxRecDepth 100000
set_option maxHeartbeats 2000000
/-! own exception classes over ValueError, IndexError, KeyError: instances as values -/
namespace Lx
open PySem PySem.Spec PyProof.Rows L2 Ly PySem.W
open Builtin.ObjectAttr (storeInDict)
/-- what the classes behind C hold -/
structure Tops (NB : String) (bm : List Value) : Prop where
  base : bm.contains (.type NB) = true
  att : bm.contains (.type "AttributeError") = false
  nme : bm.contains (.type "NameError") = false
section
variable {M : Model} {A : Around} {E : Value → Shared → Prop} {h : Heap} {g : Array GenState} {d : Drawn} {t : Nat} {os : OsState}
variable {nm q : Str} {C N : Addr} {bs bm bmN : List Value} {hdct : Bool} {sn : List Str} {sub : List Value} {ab : Bool} {col : Option Bool} {dd : Option Addr} {k0 k1 k2 k3 k5 : Option Value} {NB newId inN : String} {rest : List Value} {kw : List (Str × Value)}
theorem x_check (F : ExcBaseFacts NB newId inN bmN) (T : Tops NB bm) {Q : Unit → Shared → Prop} (hC : h.get? C = some (excClassObj nm q C N bs bm hdct sn sub ab col dd k0 k1 k2 k3 k5 newId)) (hq : Q () ⟨h, g, d, t, os⟩) :
    wpAny M A (checkBuiltinCall newId ⟨.ref C :: rest, kw⟩) Q E ⟨h, g, d, t, os⟩ := by
  have hs := F.noStar
  have hb : (Value.ref C :: bm).contains (.type NB) = true := by rw [List.contains_cons, T.base, Bool.or_true]
  simp only [checkBuiltinCall, F.newKind, F.newRow, F.newSplit]
  repeat (first | refine wpAny_staticBase_exc hC ?_ | refine wpAny_madeBy_exc hC ?_ | refine wpAny_loadPart_at hC ?_ | (refine wpAny_isSubtype_exc hC ?_; rw [hb]) | simp only [bne_self_eq_false, Bool.false_eq_true, if_false] | wp_step)
  exact hq
end
section
variable {prog : Program} {w : World} {A : Around} {E : Value → Shared → Prop} {R : Result → Shared → Prop} {h : Heap} {g : Array GenState} {d : Drawn} {t : Nat} {os : OsState}
variable {nm q : Str} {C N : Addr} {bs bm bmN : List Value} {hdct : Bool} {sn : List Str} {sub : List Value} {ab : Bool} {col : Option Bool} {dd : Option Addr} {k0 k1 k2 k3 k5 : Option Value} {NB newId inN : String} {rest : List Value} {kw : List (Str × Value)}
abbrev xTup (us : List Value) : Obj := { cls := .type "tuple", data := .seq us.toArray }
abbrev xObj (C : Addr) (dv : Option Addr) (a : Addr) : Obj := { cls := .ref C, dict := dv, data := .fields #[.ref a, .none, .none, .none, .bool false, .none] }
/-- the heap behind BaseException.__new__ -/
abbrev xHeap (h : Heap) (C : Addr) (us : List Value) : Heap := (h.push (xTup us)).push (xObj C none h.objs.size)
theorem x_new (F : ExcBaseFacts NB newId inN bmN) (T : Tops NB bm) (hC : h.get? C = some (excClassObj nm q C N bs bm hdct sn sub ab col dd k0 k1 k2 k3 k5 newId)) (hz : rest.length ≤ sizeLine)
    (hq : R (.ok (.ret (.ref (h.objs.size + 1)))) ⟨xHeap h C rest, g, d, t, os⟩) : codeAny (model prog w) A (.builtin newId ⟨.ref C :: rest, kw⟩) R ⟨h, g, d, t, os⟩ := by
  have he := F.ends
  have hb : (Value.ref C :: bm).contains (.type NB) = true := by rw [List.contains_cons, T.base, Bool.or_true]
  have ha : (Value.ref C :: bm).contains (.type "AttributeError") = false := by rw [List.contains_cons, T.att]; rfl
  have hn : (Value.ref C :: bm).contains (.type "NameError") = false := by rw [List.contains_cons, T.nme]; rfl
  refine codeAny_builtinAt F.entry ?_
  unfold Builtin.«BaseException.__new__»
  refine PySem.wpAt_bind ?_
  show PySem.wpAt _ _ _ (stack >>= _) _ _ _
  refine PySem.wpAt_bind (PySem.wpAt_stack fun p below => PySem.wpAt_of_wpAny ?_)
  wp_walk
  refine PySem.wpAt_of_wpAny ?_
  rw [F.owner]
  repeat (first | with_reducible refine wpAny_loadPart_at hC ?_ | with_reducible refine wpAny_madeHere_exc F.canon hC ?_ | (with_reducible refine wpAny_isSubtype_exc hC ?_; first | rw [hb] | rw [ha] | rw [hn]) | wp_step)
  show R _ _
  rw [Heap.size_push]
  exact hq
theorem x_type (F : ExcBaseFacts NB newId inN bmN) (T : Tops NB bm) {init : Value} {Q : Fin → Shared → Prop} (hC : h.get? C = some (excClassObj nm q C N bs bm hdct sn sub ab col dd k0 k1 k2 k3 k5 newId))
    (hi : Looks (model prog w) h (typeLookup (.ref C) "__init__") (some init)) (hb : ∀ self, Looks (model prog w) h (bindSpecial init self) (init, [self])) (hz : rest.length ≤ sizeLine)
    (hq : codeAny (model prog w) A (.call init ⟨.ref (h.objs.size + 1) :: rest, kw⟩) (fun r s' => match r with | .ok (.ret v) => v = .none ∧ Q (.done (.ret (.ref (h.objs.size + 1)))) s' | .ok _ => False | .error e => E e s') ⟨xHeap h C rest, g, d, t, os⟩) :
    wpAny (model prog w) A (Builtin.«type.__call__» ⟨.ref C :: rest, kw⟩) Q E ⟨h, g, d, t, os⟩ := by
  have kp : ∀ b o, h.get? b = some o → (xHeap h C rest).get? b = some o := fun b o e => Heap.get?_push_of_some _ (Heap.get?_push_of_some _ e)
  have gx : (xHeap h C rest).get? (h.objs.size + 1) = some (xObj C none h.objs.size) := by heap_get
  have cc : (Value.ref C :: bm).contains (.ref C) = true := by simp
  repeat (first | with_reducible refine wpAny_madeBy_exc hC ?_ | with_reducible refine wpAny_loadPart_at hC ?_ | wp_step)
  refine codeAny_call_builtin_code (Code.quiet_builtin _ F.quiet) (x_check F T hC ?_)
  refine x_new F T hC hz ?_
  show wpAny _ _ _ _ _ _
  unfold isInstance
  repeat (first | with_reducible refine wpAny_loadPart_at gx ?_ | (with_reducible refine wpAny_isSubtype_exc (kp _ _ hC) ?_; rw [cc]) | wp_step)
  show wpAny _ _ (typeLookup (.ref C) _) _ _ _
  refine (hi.keeps kp).at ?_
  refine wpAny_holding (wpAny_bind (((hb (.ref (h.objs.size + 1))).keeps kp).at ?_))
  refine wpAny_bind (wpAny_call (codeAny_mono hq fun r s' z => ?_))
  rcases r with e | (v | _ | _ | _) <;> first | exact z | exact z.elim | skip
  obtain ⟨rfl, z⟩ := z
  first | exact wpAny_pure (wpAny_pure z) | (wp_walk; exact z)
theorem x_call (F : ExcBaseFacts NB newId inN bmN) (T : Tops NB bm) {init : Value} (hC : h.get? C = some (excClassObj nm q C N bs bm hdct sn sub ab col dd k0 k1 k2 k3 k5 newId))
    (hi : Looks (model prog w) h (typeLookup (.ref C) "__init__") (some init)) (hb : ∀ self, Looks (model prog w) h (bindSpecial init self) (init, [self])) (hz : rest.length ≤ sizeLine)
    (hq : codeAny (model prog w) (A.under (.builtin "type.__call__" ⟨.ref C :: rest, kw⟩)) (.call init ⟨.ref (h.objs.size + 1) :: rest, kw⟩) (InitBack (h.objs.size + 1) R) ⟨xHeap h C rest, g, d, t, os⟩) :
    codeAny (model prog w) A (.call (.ref C) ⟨rest, kw⟩) R ⟨h, g, d, t, os⟩ := by
  have f1 := tc_lookup
  have f2 := tc_bind (.ref C)
  have ty : (⟨h, g, d, t, os⟩ : Shared).TypeIs (.ref C) "type" := ⟨_, hC, rfl⟩
  have lt : Looks (model prog w) h (isInstance (.ref C) (.type "type")) true := ((Looks.ld (part := none) hC).andThen .now).andThen (Looks.of_pure tc_sub)
  refine codeAny_of_tree ?_
  show wpAny _ _ (callAny (.ref C) _) _ _ _
  repeat (any_goals (first | assumption | with_reducible refine wpAny_loadPart_at hC ?_ | wp_step))
  refine ⟨rfl, ?_⟩
  refine codeAny_call_builtin_at (Code.quiet_builtin _ (by decide +kernel)) entry_typeCall (check_slot tc_kind tc_split lt (tc_args _ _ _) (x_type F T hC hi hb hz ?_))
  refine codeAny_mono hq fun r s' z => ?_
  rcases r with e | (v | _ | _ | _) <;> exact z
end
/-! ### X.__init__ of the built-in classes -/
structure InitF (B initId : String) : Prop where
  slot : Slot B "__init__" initId
  entry : entryFor table initId = some Builtin.«BaseException.__init__»
  split : splitId initId = some (B, "__init__")
  kind : builtinKind initId = some .slot
  row : Manifest.signature? initId = some ⟨.positional, "*", B, .self, [⟨"args", .varPos, false⟩]⟩
  star : (B != "*") = true
theorem InitF.of {B n i : String} (F : ExcCallFacts B n i) : InitF B i := ⟨F.init, F.initEntry, F.initSplit, F.initKind, F.initRow, F.noStar⟩
theorem init_KeyError : InitF "KeyError" "KeyError.__init__" where
  slot := .of (owner := "KeyError") (n := "__init__") (by rw [typeLookup_type, builtinLookup_eq_fast]; kernel_rfl) (by decide +kernel) (by decide +kernel) (by decide +kernel)
    (by first | exact .inl (by decide +kernel) | exact .inr (by decide +kernel)) (by rw [isSubtype_type]; kernel_rfl)
  entry := entryFor_alias (id' := "BaseException.__init__") (by rw [fastTable_eq_tree]; kernel_rfl) (by first | rfl | decide +kernel) (by decide +kernel) (by rw [fastTable_eq_tree]; kernel_rfl)
  split := by kernel_rfl
  kind := by kernel_rfl
  row := by kernel_rfl
  star := by decide
theorem store_KeyError : StoreFacts "KeyError" [.type "KeyError", .type "LookupError", .type "Exception", .type "BaseException", .type "object"] "object.__setattr__" "object" where
  mro := by kernel_rfl
  slot := .of (owner := "object") (n := "__setattr__") (by rw [typeLookup_type, builtinLookup_eq_fast]; kernel_rfl) (by decide +kernel) (by decide +kernel) (by decide +kernel)
    (by first | exact .inl (by decide +kernel) | exact .inr (by decide +kernel)) (by rw [isSubtype_type]; kernel_rfl)
  entry := F.store_IndexError.entry
  kind := by decide +kernel
  split := by decide +kernel
  hasOwner := by decide +kernel
  args := F.store_IndexError.args
  passes := fun self => by kernel_rfl
section
variable {prog : Program} {w : World} {A : Around} {R : Result → Shared → Prop} {h : Heap} {g : Array GenState} {d : Drawn} {t : Nat} {os : OsState}
variable {nm q : Str} {C N : Addr} {bs bm : List Value} {hdct : Bool} {sn : List Str} {sub : List Value} {ab : Bool} {col : Option Bool} {dd : Option Addr} {k0 k1 k2 k3 k5 : Option Value} {newId : String}
theorem x_base {B initId : String} {e t0 : Addr} {rest : List Value} (I : InitF B initId) (hC : h.get? C = some (excClassObj nm q C N bs bm hdct sn sub ab col dd k0 k1 k2 k3 k5 newId)) (hs : bm.contains (.type B) = true) (he : h.get? e = some (xObj C none t0)) (hz : rest.length ≤ sizeLine)
    (hq : ∀ h' t1, (∀ b o, b ≠ e → h.get? b = some o → h'.get? b = some o) → h'.get? e = some (xObj C none t1) → R (.ok (.ret .none)) ⟨h', g, d, t, os⟩) :
    codeAny (model prog w) A (.call (.builtin initId) ⟨.ref e :: rest, []⟩) R ⟨h, g, d, t, os⟩ := by
  have cb : (Value.ref C :: bm).contains (.type B) = true := by rw [List.contains_cons, hs, Bool.or_true]
  have ns := I.star
  refine codeAny_call_builtin I.slot.plain I.entry ?_
  simp only [checkBuiltinCall, I.kind, I.split, I.row]
  repeat (first | with_reducible refine wpAny_loadPart_at he ?_ | with_reducible refine wpAny_loadPart_at hC ?_ | (with_reducible refine wpAny_isSubtype_exc hC ?_; rw [cb]) | wp_step)
  refine wpAny_onRaise ?_
  rw [show ∀ (a b : String) (n : Nat), Bind.check ⟨.positional, "*", B, .self, [⟨"args", .varPos, false⟩]⟩ a b n (List.map (fun x => x.fst) ({ pos := Value.ref e :: rest } : Args).kw) = pure () from fun a b n => check_star_args _ _ _ _ _ _]
  refine wpAny_pure ?_
  wp_walk
  refine hq _ h.objs.size (fun b o hb ho => ?_) ?_
  · rw [Heap.get?_update_other _ _ (Ne.symm hb)]
    exact Heap.get?_push_of_some _ ho
  · rw [Heap.get?_update_self _ (Heap.get?_push_of_some _ he) rfl]
    rfl
end
/-! ### what the written part says of such a class -/
structure Bs (bmB : List Value) (newId B initId : String) : Prop where
  has : bmB.contains (.type B) = true
  nw : ∃ NB inN bmN, ExcBaseFacts NB newId inN bmN ∧ Tops NB bmB
  ini : InitF B initId
  st : ∃ Bx, StoreFacts Bx bmB "object.__setattr__" "object"
def bmV : List Value := [.type "ValueError", .type "Exception", .type "BaseException", .type "object"]
def bmI : List Value := [.type "IndexError", .type "LookupError", .type "Exception", .type "BaseException", .type "object"]
def bmK : List Value := [.type "KeyError", .type "LookupError", .type "Exception", .type "BaseException", .type "object"]
theorem bsV : Bs bmV "ValueError.__new__" "ValueError" "ValueError.__init__" := ⟨by decide +kernel, ⟨_, _, _, F.excBase_ValueError, by decide +kernel, by decide +kernel, by decide +kernel⟩, .of F.excBase_ValueError.toExcCallFacts, _, F.store_ValueError⟩
theorem bsI : Bs bmI "IndexError.__new__" "IndexError" "IndexError.__init__" := ⟨by decide +kernel, ⟨_, _, _, F.excBase_IndexError, by decide +kernel, by decide +kernel, by decide +kernel⟩, .of F.excBase_IndexError.toExcCallFacts, _, F.store_IndexError⟩
theorem bsK : Bs bmK "LookupError.__new__" "KeyError" "KeyError.__init__" := ⟨by decide +kernel, ⟨_, _, _, F.excBase_LookupError, by decide +kernel, by decide +kernel, by decide +kernel⟩, init_KeyError, _, store_KeyError⟩
structure XC (K : Frag) (C : Addr) (B initId : String) : Prop where
  made : ∃ bmB newId, Bs bmB newId B initId ∧ excInitIn K C bmB newId = true ∧ excOver K C bmB = true
  kp : keepIn K (.ref C) = true
  hd : hasDictIn K C = true
  sa : findIn K (.ref C) "__setattr__" = some (some (.builtin "object.__setattr__"))
  sb : subIn K (.ref C) (.type B) = some true
  ex : subIn K (.ref C) (.type "BaseException") = some true
  ga : findIn K (.ref C) "__getattribute__" = some (some (.builtin "BaseException.__getattribute__"))
  gg : findIn K (.ref C) "__getattr__" = some none
  ca : findIn K (.ref C) "__class__" = some (some (.builtin "object.__class__"))
  cn : specialIn K (.builtin "object.__class__") "__get__" = some (some (.builtin "getset_descriptor.__get__"))
  ct : takesIn K (.builtin "object.__class__") = some true
  mo : mroIn K C (.type "object") = some true
  ty : typeIn K (.ref C) = some (.type "type")
def xcB (K : Frag) (C : Addr) (bmB : List Value) (newId B : String) : Bool := excInitIn K C bmB newId && (excOver K C bmB && (keepIn K (.ref C) && (hasDictIn K C && (decide (findIn K (.ref C) "__setattr__" = some (some (.builtin "object.__setattr__"))) &&
  (decide (subIn K (.ref C) (.type B) = some true) && (decide (subIn K (.ref C) (.type "BaseException") = some true) && (decide (findIn K (.ref C) "__getattribute__" = some (some (.builtin "BaseException.__getattribute__"))) && (decide (findIn K (.ref C) "__getattr__" = some none) &&
  (decide (findIn K (.ref C) "__class__" = some (some (.builtin "object.__class__"))) && (decide (specialIn K (.builtin "object.__class__") "__get__" = some (some (.builtin "getset_descriptor.__get__"))) && (decide (takesIn K (.builtin "object.__class__") = some true) && (decide (mroIn K C (.type "object") = some true) &&
  decide (typeIn K (.ref C) = some (.type "type"))))))))))))))
theorem XC.of {K : Frag} {C : Addr} {bmB : List Value} {newId B initId : String} (b : Bs bmB newId B initId) (h : xcB K C bmB newId B = true) : XC K C B initId := by
  unfold xcB at h
  simp only [Bool.and_eq_true, decide_eq_true_eq] at h
  obtain ⟨h1, h2, h3, h4, h5, h6, h7, h8, h9, h10, h11, h12, h13, h14⟩ := h
  exact ⟨⟨bmB, newId, b, h1, h2⟩, h3, h4, h5, h6, h7, h8, h9, h10, h11, h12, h13, h14⟩
/-! ### an instance made -/
section
variable {X : Cx} {pins : List (Addr × Obj)} {σ : L2.St} {H : Hp} {s : Shared} {C : Addr} {B initId : String}
theorem Inv.exc {hp : Heap} {g : Array GenState} {dr : Drawn} {tk : Nat} {os : OsState} (us : List Value) (I : Inv X pins σ H ⟨hp, g, dr, tk, os⟩) :
    Inv X pins σ (upd H (hp.objs.size + 1) (exo (hp.objs.size + 1) C none)) ⟨xHeap hp C us, g, dr, tk, os⟩ :=
  I.laid (t' := tk) (a := hp.objs.size + 1) (o := exo (hp.objs.size + 1) C none) (h' := xHeap hp C us) (fun b o e => Heap.get?_push_of_some _ (Heap.get?_push_of_some _ e)) (Nat.le_succ _)
    (exo_ok (t1 := hp.objs.size) (show (xHeap hp C us).get? (hp.objs.size + 1) = some (xObj C none hp.objs.size) by heap_get))
/-- X(..), X without own __init__ -/
theorem run_xB {us : List Value} {Q : VK} (T : XC X.K C B initId) (hi : findIn X.K (.ref C) "__init__" = some (some (.builtin initId))) (I : Inv X pins σ H s) (hz : us.length ≤ sizeLine)
    (h : ∀ a, H a = none → Q (.ref a) (upd H a (exo a C none))) : wpAny (model X.prog X.w) X.A (call (.ref C) us) (EP X pins σ Q) X.xe s := by
  obtain ⟨bmB, newId, ⟨hB, ⟨NB, inN, bmN, FN, TN⟩, ini, _⟩, q1, q2⟩ := T.made
  obtain ⟨nm, N, qn, bs, bm, hdct, sn, sub, ab, col, dd, k0, k1, k2, k3, k5, hC, hT⟩ := excInit_of I.kIn q1
  obtain ⟨hp, g, dr, tk, os⟩ := s
  have hn : H (hp.objs.size + 1) = none := I.hok.fresh (Nat.le_succ _)
  have J := Inv.exc (C := C) us I
  have gx : (xHeap hp C us).get? (hp.objs.size + 1) = some (xObj C none hp.objs.size) := by heap_get
  refine wpAny_call (x_call FN ⟨by rw [hT]; exact TN.base, by rw [hT]; exact TN.att, by rw [hT]; exact TN.nme⟩ hC (looks_findIn I.kIn hi) (fun self => Looks.of_pure (ini.slot.bind self)) hz
    (x_base ini (Heap.get?_push_of_some _ (Heap.get?_push_of_some _ hC)) (by rw [hT]; exact hB) gx hz fun h' t1 k e' => ⟨rfl, .ref (hp.objs.size + 1), _, ?_, rfl, h _ hn⟩))
  exact I.laid (t' := tk) (a := hp.objs.size + 1) (o := exo (hp.objs.size + 1) C none) (h' := h') (fun b o e => k b o (Nat.ne_of_lt (Nat.lt_succ_of_lt (Heap.lt_size e))) (Heap.get?_push_of_some _ (Heap.get?_push_of_some _ e))) (Nat.le_succ _) (exo_ok e')
/-- X(..), X with own __init__ -/
theorem run_xN {CX : CXT} {k n : Nat} {f : Addr} {fd : FuncData} {ps ks : List Str} {sp : Sp} {E : XK} {g : List Value → List Value → List Value} {gV : List V → List V → List V} {Q : VK} {us ws : List Value} {vs zs : List V}
    (T : XC X.K C B initId) (iC : findIn X.K (.ref C) "__init__" = some (some (.ref f))) (tI : typeIn X.K (.ref f) = some (.type "function")) (F : FnOk X.prog X.w X.K X.mg X.base CX k f fd ps sp) (hr : Room (k + 1) X.A) (hb : KBn X.K fd ps (n + 1) ks g gV)
    (hx : Passes CX X E) (I : Inv X pins σ H s) (r : Vals vs us) (rz : Vals zs ws) (l1 : vs.length = n) (l2 : zs.length = ks.length) (hz : n ≤ 1000)
    (h : ∀ a, H a = none → sp (gV (.ref a :: vs) zs) (upd H a (exo a C none)) (fun v H2 => v = .non ∧ Q (.ref a) H2) E) :
    wpAny (model X.prog X.w) X.A (call (.ref C) us (ks.zip ws)) (EP X pins σ Q) X.xe s := by
  obtain ⟨bmB, newId, ⟨hB, ⟨NB, inN, bmN, FN, TN⟩, ini, _⟩, q1, q2⟩ := T.made
  obtain ⟨nm, N, qn, bs, bm, hdct, sn, sub, ab, col, dd, k0, k1, k2, k3, k5, hC, hT⟩ := excInit_of I.kIn q1
  obtain ⟨hp, g0, dr, tk, os⟩ := s
  have hn : H (hp.objs.size + 1) = none := I.hok.fresh (Nat.le_succ _)
  have hq := h _ hn
  have J := Inv.exc (C := C) us I
  have r1 : Vals (V.ref (hp.objs.size + 1) :: vs) (Value.ref (hp.objs.size + 1) :: us) := .cons rfl r
  have r2 := hb.rel r1 rz
  have e1 : (Value.ref (hp.objs.size + 1) :: us).length = n + 1 := r1.length.symm.trans (congrArg Nat.succ l1)
  have e2 : ws.length = ks.length := rz.length.symm.trans l2
  have hus : us.length ≤ sizeLine := by
    rw [← Paired.length r, sizeLine_eq]
    omega
  refine wpAny_call (x_call FN ⟨by rw [hT]; exact TN.base, by rw [hT]; exact TN.att, by rw [hT]; exact TN.nme⟩ hC (looks_findIn I.kIn iC) (fun self => bind_fn I.kIn self tI) hus
    (codeAny_mono (F.run _ X.stack _ _ ⟨Value.ref (hp.objs.size + 1) :: us, ks.zip ws⟩ (g (Value.ref (hp.objs.size + 1) :: us) ws) _ _ E (hr.make C us (ks.zip ws)) (J.env0.make C us (ks.zip ws)) (hb.to _ (Value.ref (hp.objs.size + 1) :: us) ws J.kIn e1 e2) r2 hq) fun r s' hq' => ?_))
  cases r with
  | error e => exact hx pins σ _ _ e s' J hq'
  | ok fl =>
    cases fl with
    | ret u =>
      obtain ⟨v, H', I3, rv, ev, q3⟩ := J.after hq'
      subst ev
      exact ⟨rv, ⟨V.ref (hp.objs.size + 1), H', I3, rfl, q3⟩⟩
    | next => exact False.elim hq'
    | brk => exact False.elim hq'
    | cont => exact False.elim hq'
end
def tXB (C : Addr) (t : TA) : TE := fun σ H Q => t σ H fun vs H1 => vs.length ≤ 1000 ∧ ∀ a, H1 a = none → Q (.ref a) (upd H1 a (exo a C none))
def tXN (C : Addr) (n m : Nat) (sp : Sp) (gV : List V → List V → List V) (E : XK) (t tk : TA) : TE := fun σ H Q => t σ H fun vs H1 => tk σ H1 fun zs H2 => vs.length = n ∧ zs.length = m ∧ n ≤ 1000 ∧
  ∀ a, H2 a = none → sp (gV (.ref a :: vs) zs) (upd H2 a (exo a C none)) (fun v H3 => v = .non ∧ Q (.ref a) H3) E
section
variable {X : Cx} {CX : CXT} {k n : Nat} {f C : Addr} {fd : FuncData} {ps ks : List Str} {sp : Sp} {E : XK} {x : Str} {p pos : Pos} {e : Expr} {es : List Expr} {kws : List Keyword} {t tk : TA} {g : List Value → List Value → List Value} {gV : List V → List V → List V} {B initId : String}
theorem pe_xB0 (T : XC X.K C B initId) (hi : findIn X.K (.ref C) "__init__" = some (some (.builtin initId))) (hg : Gl X x) (hm : X.mg x = some (.ref C)) (hdb : (x == ("__debug__" : Str)) = false := by decide) : PE X (.Call (.Name x p) [] [] pos) (tXB C tNil) := by
  refine ⟨fun pins s σ H Q I h => ?_⟩
  refine wpAny_Call_Name_kw (ld_glob I hg hm ?_ hdb)
  refine callWith_KW0 (h₀ := X.base) (kws := []) I.ok.mod.kin T.kp (by rfl) ?_ (by rfl)
  refine thn ((pk_nil (X := X)).run pos pins s σ H _ I h) fun ws s2 ⟨zs, H2, I2, rz, l1, q2⟩ => ⟨I2.kIn, ?_⟩
  exact run_xB T hi I2 (Nat.zero_le _) q2
theorem pe_xB (T : XC X.K C B initId) (hi : findIn X.K (.ref C) "__init__" = some (some (.builtin initId))) (hg : Gl X x) (hm : X.mg x = some (.ref C)) (ha : PA X (e :: es) t) (hdb : (x == ("__debug__" : Str)) = false := by decide)
    (he : starEach (e :: es) X.env = (false, eval e X.env) :: starEach es X.env := by rfl) (hpl : (backTo pos (starEach es X.env)).any (·.1) = false := by rfl) : PE X (.Call (.Name x p) (e :: es) [] pos) (tXB C t) := by
  refine ⟨fun pins s σ H Q I h => ?_⟩
  refine wpAny_Call_Name_kw (ld_glob I hg hm ?_ hdb)
  refine callWith_K (h₀ := X.base) I.ok.mod.kin T.kp (thn (ha.run pos pins s σ H _ I h) fun us s1 ⟨vs, H1, I1, r, l1, q⟩ => ⟨I1.kIn, ?_⟩) he hpl
  exact run_xB T hi I1 (show us.length ≤ sizeLine by rw [← Paired.length r, sizeLine_eq]; omega) q
theorem pe_xN (T : XC X.K C B initId) (iC : findIn X.K (.ref C) "__init__" = some (some (.ref f))) (tI : typeIn X.K (.ref f) = some (.type "function")) (F : FnOk X.prog X.w X.K X.mg X.base CX k f fd ps sp) (hr : Room (k + 1) X.A) (hg : Gl X x) (hm : X.mg x = some (.ref C)) (hb : KBn X.K fd ps (n + 1) ks g gV) (hx : Passes CX X E) (ha : PA X (e :: es) t) (hkw : PK X kws tk)
    (hall : (backToKw pos (keywordEach kws X.env)).all (·.1.isSome) = true := by rfl) (hks : (backToKw pos (keywordEach kws X.env)).filterMap (·.1) = ks := by rfl) (hdb : (x == ("__debug__" : Str)) = false := by decide)
    (he : starEach (e :: es) X.env = (false, eval e X.env) :: starEach es X.env := by rfl) (hpl : ((backTo pos (starEach (e :: es) X.env)).any (·.1) || (backToKw pos (keywordEach kws X.env)).any (·.1.isNone)) = false := by rfl) :
    PE X (.Call (.Name x p) (e :: es) kws pos) (tXN C n ks.length sp gV E t tk) := by
  refine ⟨fun pins s σ H Q I h => ?_⟩
  refine wpAny_Call_Name_kw (ld_glob I hg hm ?_ hdb)
  refine callWith_KW (h₀ := X.base) I.ok.mod.kin T.kp hall (thn (ha.run pos pins s σ H _ I h) fun us s1 ⟨vs, H1, I1, r, q⟩ => ?_) hpl he
  refine thn (hkw.run pos pins s1 σ H1 _ I1 q) fun ws s2 ⟨zs, H2, I2, rz, l1, l2, l3, q2⟩ => ⟨I2.kIn, ?_⟩
  rw [hks]
  exact run_xN T iC tI F hr hb hx I2 r rz l1 l2 l3 q2
theorem pe_xK (T : XC X.K C B initId) (iC : findIn X.K (.ref C) "__init__" = some (some (.ref f))) (tI : typeIn X.K (.ref f) = some (.type "function")) (F : FnOk X.prog X.w X.K X.mg X.base CX k f fd ps sp) (hr : Room (k + 1) X.A) (hg : Gl X x) (hm : X.mg x = some (.ref C)) (hb : KBn X.K fd ps 1 ks g gV) (hx : Passes CX X E) (hkw : PK X kws tk)
    (hall : (backToKw pos (keywordEach kws X.env)).all (·.1.isSome) = true := by rfl) (hks : (backToKw pos (keywordEach kws X.env)).filterMap (·.1) = ks := by rfl) (hdb : (x == ("__debug__" : Str)) = false := by decide)
    (hpl : ((backTo pos (starEach [] X.env)).any (·.1) || (backToKw pos (keywordEach kws X.env)).any (·.1.isNone)) = false := by rfl) :
    PE X (.Call (.Name x p) [] kws pos) (tXN C 0 ks.length sp gV E tNil tk) := by
  refine ⟨fun pins s σ H Q I h => ?_⟩
  refine wpAny_Call_Name_kw (ld_glob I hg hm ?_ hdb)
  refine callWith_KW0 (h₀ := X.base) I.ok.mod.kin T.kp hall ?_ hpl
  refine thn (hkw.run pos pins s σ H _ I h) fun ws s2 ⟨zs, H2, I2, rz, l1, l2, l3, q2⟩ => ⟨I2.kIn, ?_⟩
  rw [hks]
  exact run_xN (us := []) (vs := []) T iC tI F hr hb hx I2 .nil rz rfl l2 l3 q2
end
/-! ### self.f = y -/
section
variable {X : Cx} {pins : List (Addr × Obj)} {σ : L2.St} {H : Hp} {s : Shared} {a C dx : Addr} {f : Str} {y : V} {u : Value} {fs : List (Str × V)} {Q : Unit → Shared → Prop} {E : Value → Shared → Prop} {A : Around} {B initId : String}
theorem xst_new (T : XC X.K C B initId) (I : L2.Inv X pins σ H s) (e : H a = some (exo a C none)) (ht : takerIn X.K C f = some none) (ry : RelV y u)
    (h : ∀ dx s', H dx = none → dx ≠ a → L2.Inv X pins σ (upd (upd H dx (exd dx [(f, y)])) a (exo a C (some dx))) s' → Q () s') : wpAny (model X.prog X.w) A (setAttr (.ref a) f u) Q E s := by
  obtain ⟨bmB, newId, ⟨_, _, _, Bx, SF⟩, _, q2⟩ := T.made
  obtain ⟨t1, ho⟩ := exo_at I.hok e
  obtain ⟨cd, hc, hcd⟩ := any_some (show (clsIn X.K C).any (·.hasDict) = true from T.hd)
  obtain ⟨hp, g, d, t, os⟩ := s
  refine set_plain (od := none) I.kIn ⟨ho, rfl, rfl, trivial⟩ T.sa (osa_openX (od := none) SF I.kIn ⟨ho, rfl, rfl, trivial⟩ q2 ht fun b => ?_)
  have la : a < hp.objs.size := Heap.lt_size ho
  have nn : H hp.objs.size = none := I.hok.fresh (Nat.le_refl _)
  have g1 : ((hp.push (dictOf [] 0)).update a fun o => { o with dict := some hp.objs.size }).get? hp.objs.size = some (dictOf [] 0) := by
    rw [Heap.get?_update_other _ _ (Nat.ne_of_lt la)]
    exact Heap.get?_push_size hp rfl
  have g2 : ((hp.push (dictOf [] 0)).update a fun o => { o with dict := some hp.objs.size }).get? a = some (xObj C (some hp.objs.size) t1) := Heap.get?_update_self _ (Heap.get?_push_of_some _ ho) rfl
  refine wpAny_bind (wpAny_pure (wpAny_bind (instanceDict_exc (s := ⟨hp, g, d, t + 1, os⟩) ho (looks_clsIn I.kIn hc) hcd ?_)))
  show wpAny _ _ (storeInDict hp.objs.size (.str f _) f u) _ _ _
  refine HandSPX.store_in_new ⟨_, #[], _, g1, rfl, fun e he => absurd he (by simp), fun _ => rfl⟩ fun h' tk' hn hs => ?_
  have other : ∀ b o, b ≠ a → hp.get? b = some o → h'.get? b = some o := fun b o hb eo => by
    rw [hs.2 b (Nat.ne_of_lt (Heap.lt_size eo)), Heap.get?_update_other _ _ (Ne.symm hb)]
    exact Heap.get?_push_of_some _ eo
  have ga : h'.get? a = some (xObj C (some hp.objs.size) t1) := (hs.2 a (Nat.ne_of_lt la)).trans g2
  have na : ∀ {b : Addr}, H b = none → b ≠ a := fun {b} n z => by
    rw [z, e] at n
    cases n
  have nd : ∀ {b : Addr} {o : Obj}, hp.get? b = some o → b ≠ hp.objs.size := fun q => Nat.ne_of_lt (Heap.lt_size q)
  have U : Un X.fs [] H (upd (upd H hp.objs.size (exd hp.objs.size [(f, y)])) a (exo a C (some hp.objs.size))) hp h' := {
    keep := fun b o q n _ _ => other b o (na n) q
    slot := fun b o q n _ _ => ⟨o.slots, other b o (na n) q⟩
    free := fun b o q n _ => by rw [upd_ne (na n), upd_ne (nd q)]; exact n
    there := fun b o q _ => by
      by_cases hb : b = a
      · exact ⟨_, by rw [hb]; exact ga⟩
      · exact ⟨o, other b o hb q⟩
    tups := fun b xs q => by rw [upd_ne (at_ne e q exo_tup), upd_ne (ne_of_none q nn)]; exact q
    frzs := fun b o v q => by rw [upd_ne (at_ne e q exo_frz), upd_ne (ne_of_none q nn)]; exact q
    tbls := fun b ps q => ⟨#[], by rw [upd_ne (at_ne e q exo_tbl), upd_ne (ne_of_none q nn), q]; simp⟩ }
  refine h hp.objs.size ⟨h', g, d, tk', os⟩ nn (Nat.ne_of_gt la) (I.un (t' := tk') U fun b o q => ?_)
  by_cases hb : b = a
  · subst hb
    rw [upd_same] at q
    cases q
    exact exo_ok ga
  · rw [upd_ne hb] at q
    by_cases hd : b = hp.objs.size
    · subst hd
      rw [upd_same] at q
      cases q
      exact exd_ok hn (relO_put (fs := []) ry fun g => True.intro)
    · rw [upd_ne hd] at q
      exact (I.hok b o q).stay (fun c v hc z => other c v (by
          rcases hc with hc | hc
          · rw [hc]
            exact hb
          · exact at_ne e hc exo_own) z)
        (fun c hc => by rw [upd_ne (at_ne e hc exo_own), upd_ne (ne_of_none hc nn)]; exact hc) (fun c xs hc => by rw [upd_ne (at_ne e hc exo_tup), upd_ne (ne_of_none hc nn)]; exact hc)
theorem xst_old (T : XC X.K C B initId) (I : L2.Inv X pins σ H s) (e : H a = some (exo a C (some dx))) (ed : H dx = some (exd dx fs)) (hl : fs.length ≤ 900) (ht : takerIn X.K C f = some none) (ry : RelV y u)
    (h : ∀ s', L2.Inv X pins σ (upd H dx (exd dx ((f, y) :: fs))) s' → Q () s') : wpAny (model X.prog X.w) A (setAttr (.ref a) f u) Q E s := by
  obtain ⟨bmB, newId, ⟨_, _, _, Bx, SF⟩, _, q2⟩ := T.made
  obtain ⟨t1, ho⟩ := exo_at I.hok e
  obtain ⟨mA, hns, rel⟩ := exd_at I.hok ed
  have hw := within_of rel
  obtain ⟨cd, hc, hcd⟩ := any_some (show (clsIn X.K C).any (·.hasDict) = true from T.hd)
  obtain ⟨hp, g, d, t, os⟩ := s
  obtain ⟨oD, _, _, hoD, _, _⟩ := hns.count hw
  refine set_plain (od := some oD) I.kIn ⟨ho, rfl, rfl, hoD⟩ T.sa (osa_openX (od := some oD) SF I.kIn ⟨ho, rfl, rfl, hoD⟩ q2 ht fun b => ?_)
  refine wpAny_bind (wpAny_pure (wpAny_bind (wpAny_bind (wpAny_loadPart ho (wpAny_bind ((looks_clsIn I.kIn hc).at ?_))))))
  rw [hcd]
  refine wpAny_pure (a := some dx) ?_
  refine OEX.store_in_old hns hw (by rw [List.length_map]; omega) fun h' tk' hn hs => ?_
  have there : ∃ o, h'.get? dx = some o := by
    obtain ⟨o, _, _, e', _⟩ := hn
    exact ⟨o, e'⟩
  exact h _ (I.write (t' := tk') (x := dx) (e := dx) (o := exd dx ((f, y) :: fs)) (by rw [ed]; exact True.intro) (.inl rfl) (fun b o hb q => (hs.2 b hb).trans q) there (exd_ok hn (relO_put ry rel)))
/-- X.__init__(self, ..), X built in -/
theorem xinit_ok {us : List Value} {Q : Value → Shared → Prop} (T : XC X.K C B initId) (I : L2.Inv X pins σ H s) (e : H a = some (exo a C none)) (hl : us.length ≤ sizeLine) (h : ∀ s', L2.Inv X pins σ H s' → Q .none s') :
    wpAny (model X.prog X.w) A (call (.builtin initId) (.ref a :: us)) Q E s := by
  obtain ⟨bmB, newId, ⟨hB, _, ini, _⟩, q1, _⟩ := T.made
  obtain ⟨nm, N, qn, bs, bm, hdct, sn, sub, ab, col, dd, k0, k1, k2, k3, k5, hC, hT⟩ := excInit_of I.kIn q1
  obtain ⟨t1, ho⟩ := exo_at I.hok e
  obtain ⟨hp, g, d, t, os⟩ := s
  refine wpAny_call (x_base ini hC (by rw [hT]; exact hB) ho hl fun h' t2 k hx => ?_)
  have J := I.write (t' := t) (x := a) (e := a) (o := exo a C none) (by rw [e]; exact True.intro) (.inl rfl) k ⟨_, hx⟩ (exo_ok hx)
  have eu : upd H a (exo a C none) = H := by
    funext b
    by_cases hb : b = a
    · rw [hb, upd_same, e]
    · rw [upd_ne hb]
  rw [eu] at J
  exact h _ J
end
def tXst (K : Frag) (f : Str) (to te : TE) : TS := fun D σ H => te σ H fun y H1 => to σ H1 fun x H2 => ∃ (a C : Addr) (B ini : String), x = .ref a ∧ XC K C B ini ∧ takerIn K C f = some none ∧
  ((H2 a = some (exo a C none) ∧ ∀ dx, H2 dx = none → dx ≠ a → D.nx σ (upd (upd H2 dx (exd dx [(f, y)])) a (exo a C (some dx)))) ∨
    ∃ (dx : Addr) (fs : List (Str × V)), H2 a = some (exo a C (some dx)) ∧ H2 dx = some (exd dx fs) ∧ fs.length ≤ 900 ∧ D.nx σ (upd H2 dx (exd dx ((f, y) :: fs))))
def tXI (K : Frag) (initId : String) (ta : TA) : TE := fun σ H Q => ta σ H fun vs H1 => ∃ (a C : Addr) (B : String) (ws : List V), vs = .ref a :: ws ∧ ws.length ≤ 1000 ∧ XC K C B initId ∧ H1 a = some (exo a C none) ∧ Q .non H1
def tXF (K : Frag) (n : Str) (te : TE) : TE := fun σ H Q => te σ H fun x H1 => ∃ (a C : Addr) (B ini : String) (dx : Addr) (fs : List (Str × V)) (v : V), x = .ref a ∧ XC K C B ini ∧ findIn K (.ref C) n = some none ∧ H1 a = some (exo a C (some dx)) ∧ H1 dx = some (exd dx fs) ∧ fs.lookup n = some v ∧ Q v H1
/-- an exception's object, with a dict or none -/
def IsX (H : Hp) (a C : Addr) : Prop := H a = some (exo a C none) ∨ ∃ dx fs, H a = some (exo a C (some dx)) ∧ H dx = some (exd dx fs)
def rIsX (K : Frag) : List V → Hp → VK → Prop := fun xs H Q => ∃ (a C : Addr) (B ini : String) (c : V) (u : Value) (b : Bool), xs = [.ref a, c] ∧ IsX H a C ∧ XC K C B ini ∧ ClsV c u ∧ kitOne K (.ref C) u = some b ∧ Q (.bl b) H
section
variable {X : Cx} {o e : Expr} {es : List Expr} {to te : TE} {ta : TA} {f : Str} {p p' p1 p2 pos : Pos}
theorem ps_xst (ho : PE X o to) (he : PE X e te) (hs : swapsWith e (some (.Attribute o f p')) pos.line X.env = pure false := by rfl) : PS X (.Assign [.Attribute o f p'] e pos) (tXst X.K f to te) := by
  refine ⟨fun pins s σ H D I h => ?_⟩
  refine plainObj_wpAny_Assign_Attribute (thn (he.run pins s σ H _ I h) fun v s1 ⟨y, H1, I1, r1, q1⟩ => thn (ho.run pins s1 σ H1 _ I1 q1) fun u s2 ⟨x, H2, I2, r2, a, C, B, ini, ex, T, ht, q⟩ => ?_) hs
  subst ex
  obtain rfl : u = Value.ref a := r2
  rcases q with ⟨ea, q⟩ | ⟨dx, fs, ea, ed, hl, q⟩
  · exact xst_new T I2 ea ht r1 fun dx s' n ne J => ⟨σ, _, J, q dx n ne⟩
  · exact xst_old T I2 ea ed hl ht r1 fun s' J => ⟨σ, _, J, q⟩
/-- C.__init__(self, ..), C an own class without own __init__ -/
theorem pe_xinitC {x : Str} {C : Addr} {mc : Value} {initId : String} {pl : Sem Bool} (hg : Gl X x) (hm : X.mg x = some (.ref C)) (rd : readsIn X.K C mc = true) (gc : specialIn X.K (.ref C) "__getattribute__" = some (some (.builtin "type.__getattribute__")))
    (vV : findCls X.K (.ref C) mc "__init__" = some (.val (.builtin initId))) (hh : handedIn (.builtin initId) = true) (ha : PA X (e :: es) ta)
    (hc : eval (.Call (.Attribute (.Name x p1) "__init__" p2) (e :: es) [] pos) X.env = (do
      let ov ← eval (.Name x p1) X.env
      standAt p2.atName
      let (f, first) ← holding [ov] (getMethod ov "__init__" pl)
      callWith pos f first (backTo pos (starEach (e :: es) X.env)) (backToKw pos (keywordEach [] X.env))) := by rfl)
    (hdb : (x == ("__debug__" : Str)) = false := by decide) (he : starEach (e :: es) X.env = (false, eval e X.env) :: starEach es X.env := by rfl) (hpl : (backTo pos (starEach es X.env)).any (·.1) = false := by rfl) :
    PE X (.Call (.Attribute (.Name x p1) "__init__" p2) (e :: es) [] pos) (tXI X.K initId ta) := by
  refine ⟨fun pins s σ H Q I h => ?_⟩
  refine methodCall_KW (ld_glob I hg hm ?_ hdb) hc
  refine method_cls I.kIn gc (cls_value I.kIn rd vV hh ?_)
  show wpAny _ _ (callWith pos (Value.builtin initId) [] (backTo pos (starEach (e :: es) X.env)) []) _ _ _
  refine callWith_method1 (thn (ha.run pos pins _ σ H _ (I.tok _) h) fun us s1 ⟨vs, H1, I1, r1, a, C', B, ws, ev, hl, T, ea, q⟩ => ?_) he hpl
  subst ev
  cases r1 with
  | @cons _ u0 _ ur ra rw' =>
    obtain rfl : u0 = Value.ref a := ra
    have hlen : ur.length ≤ sizeLine := by
      rw [← Paired.length rw', sizeLine_eq]
      omega
    exact xinit_ok T I1 ea hlen fun s' J => ⟨.non, H1, J, rfl, q⟩
/-- B.__init__(self, ..), B a built-in class -/
theorem pe_xinitT {B initId : String} {x : Str} {pl : Sem Bool} (hg : Gl X x) (hm : X.mg x = none) (hv : bootBuiltins x = some (.type B)) (ht : typeOf (.type B) = pure (.type "type")) (hst : Manifest.isStub B = false) (vV : findCls X.K (.type B) (.type "type") "__init__" = some (.val (.builtin initId))) (hh : handedIn (.builtin initId) = true) (ha : PA X (e :: es) ta)
    (hc : eval (.Call (.Attribute (.Name x p1) "__init__" p2) (e :: es) [] pos) X.env = (do
      let ov ← eval (.Name x p1) X.env
      standAt p2.atName
      let (f, first) ← holding [ov] (getMethod ov "__init__" pl)
      callWith pos f first (backTo pos (starEach (e :: es) X.env)) (backToKw pos (keywordEach [] X.env))) := by rfl)
    (hn : x ≠ "__name__" := by decide) (hdb : (x == ("__debug__" : Str)) = false := by decide) (he : starEach (e :: es) X.env = (false, eval e X.env) :: starEach es X.env := by rfl) (hpl : (backTo pos (starEach es X.env)).any (·.1) = false := by rfl) :
    PE X (.Call (.Attribute (.Name x p1) "__init__" p2) (e :: es) [] pos) (tXI X.K initId ta) := by
  refine ⟨fun pins s σ H Q I h => ?_⟩
  refine methodCall_KW (ld_blt I hg hm hv ?_ hn hdb) hc
  obtain ⟨m, fr⟩ := I.fr
  refine method_type fr I.ok.mod.kin ht hst vV hh ?_
  show wpAny _ _ (callWith pos (Value.builtin initId) [] (backTo pos (starEach (e :: es) X.env)) []) _ _ _
  refine callWith_method1 (thn (ha.run pos pins _ σ H _ (I.tok _) h) fun us s1 ⟨vs, H1, I1, r1, a, C', B', ws, ev, hl, T, ea, q⟩ => ?_) he hpl
  subst ev
  cases r1 with
  | @cons _ u0 _ ur ra rw' =>
    obtain rfl : u0 = Value.ref a := ra
    have hlen : ur.length ≤ sizeLine := by
      rw [← Paired.length rw', sizeLine_eq]
      omega
    exact xinit_ok T I1 ea hlen fun s' J => ⟨.non, H1, J, rfl, q⟩
/-- e.n -/
theorem pe_xfld {n : Str} (he : PE X e te) (hb : attributeBase e n X.env (eval e X.env) = eval e X.env := by rfl) : PE X (.Attribute e n pos) (tXF X.K n te) := by
  refine ⟨fun pins s σ H Q I h => ?_⟩
  refine attr_of hb (thn (he.run pins s σ H _ I h) fun u s1 hh => ?_)
  obtain ⟨x, H1, I1, rx, a, C, B, ini, dx, fs, v, ex, T, hno, ea, ed, l, q⟩ := hh
  subst ex
  obtain rfl : u = Value.ref a := rx
  obtain ⟨t1, ho⟩ := exo_at I1.hok ea
  obtain ⟨mA, hns, hr⟩ := exd_at I1.hok ed
  obtain ⟨od, hd, hl⟩ := lookIn_ns hns
  obtain ⟨u, hu, ru⟩ := RelO.some_of (v := v) (o := mA n) (by rw [← l]; exact hr n)
  exact HandSPX.exc_get I1.kIn ⟨ho, rfl, rfl, hd⟩ T.ga T.gg T.ex (findObj_own T.hd hno rfl (by rw [hl, hu])) (handed_of ru) ⟨v, H1, I1.tok _, ru, q⟩
theorem call_isX : CallR X (.builtin "isinstance") (rIsX X.K) := by
  intro pins s σ H xs us Q I r h
  obtain ⟨a, C, B, ini, c, u, b, rfl, ix, T, k, e, q⟩ := h
  obtain ⟨u1, u2, rfl, r1, r2⟩ := vals2 r
  have e2 := k.eq r2
  subst e2
  cases (show u1 = Value.ref a from r1)
  obtain ⟨cd, hc, _⟩ := any_some (show (clsIn X.K C).any (·.hasDict) = true from T.hd)
  have hcl : (clsIn X.K C).isSome = true := by rw [hc]; rfl
  have ⟨ox, od, J⟩ : ∃ ox od, InstAt s.heap a ox C od := by
    rcases ix with ea | ⟨dx, fs, ea, ed⟩
    · obtain ⟨t1, ho⟩ := exo_at I.hok ea
      exact ⟨_, none, ho, rfl, rfl, trivial⟩
    · obtain ⟨t1, ho⟩ := exo_at I.hok ea
      obtain ⟨mA, hns, hr⟩ := exd_at I.hok ed
      obtain ⟨od, hd, hl⟩ := lookIn_ns hns
      exact ⟨_, some od, ho, rfl, rfl, hd⟩
  exact kia_one (kitx_exc hcl T.ga T.gg T.ex T.ca T.cn T.ct T.mo) I.kIn J e (fun z => nomatch z) fun tk => ⟨.bl b, H, I.tok tk, rfl, q⟩
end
/-! ### t[::-1] of a triple -/
section
variable {prog : Program} {w : World} {A : Around} {E : Value → Shared → Prop} {s : Shared}
theorem getItem_rev3 {t sl : Addr} {x y z : Value} {u : Tok} {Q : Value → Shared → Prop} (ht : IsTup s.heap t #[x, y, z]) (hs : s.heap.IsSliceOf sl .none .none (.int (-1) u))
    (h : Q (.ref s.heap.objs.size) { s with heap := s.heap.push { cls := .type "tuple", data := .seq #[z, y, x] } }) : wpAny (model prog w) A (getItem (.ref t) (.ref sl)) Q E s := by
  obtain ⟨os, hos, hcs, hds⟩ := id hs
  have hTs : s.TypeIs (.ref sl) "slice" := ⟨os, hos, hcs⟩
  unfold getItem
  try with_reducible refine wpAny_holding ?_
  first | refine wpAny_bind (wpAny_pure ?_) | skip
  refine wpAny_bind (wpAny_sequenceKey ht.typeIs (by decide) ?_)
  refine wpAny_bind (wpAny_callSpecial?_slot (name := Str.ofString "__getitem__") ht.typeIs PyProof.Rows.slot_tuple_getitem
    (wpAny_call_entry PyProof.Rows.slot_tuple_getitem ht.typeIs entry_tuple_getitem ?_ (args_tuple_getitem _ _)))
  show wpAny _ _ (Builtin.Tuple.tupleItemsOf (.ref t) >>= _) _ _ s
  refine wpAny_bind (tupleItemsOf_ ht ?_)
  refine wpAny_bind (wpAny_typeOf hTs ?_)
  rw [if_pos (by decide)]
  refine wpAny_bind ?_
  unfold Builtin.Slice.sliceApplied Builtin.Slice.sliceFields
  refine wpAny_bind (wpAny_bind (wpAny_field hos hds (x := .none) rfl (wpAny_bind (wpAny_field hos hds (x := .none) rfl (wpAny_bind (wpAny_field hos hds (x := .int (-1) u) rfl (wpAny_pure ?_)))))))
  refine wpAny_bind (HT.slicePart_ (.int (-1) u) ?_)
  show wpAny _ _ (if ((-1 : Int) == 0) = true then _ else _) _ _ s
  rw [if_neg (by decide)]
  refine wpAny_bind (HT.slicePart_ .none (wpAny_bind (HT.slicePart_ .none (wpAny_bind (wpAny_pure ?_)))))
  refine wpAny_of_eq (a := ((2 : Int), (-1 : Int), 3)) (by first | rfl | kernel_rfl) ?_
  show wpAny _ _ (if ((2 : Int) == 0 && (-1 : Int) == 1 && (3 : Nat) == 3) = true then _ else _) _ _ s
  rw [if_neg (by decide)]
  have hsz : sizeOk (.seq #[z, y, x]) := by
    show 3 ≤ sizeLine
    decide
  show wpAny _ _ (Builtin.Tuple.tupleExact #[z, y, x] >>= _) _ _ s
  first
    | exact wpAny_bind (m := Builtin.Tuple.tupleExact _) (wpAny_newObj_type (wpAny_pure ⟨_, rfl, wpAny_pure h⟩) hsz)
    | exact wpAny_bind (m := Builtin.Tuple.tupleExact _) (wpAny_newObj_type (wpAny_bind (wpAny_pure (wpAny_pure ⟨_, rfl, wpAny_pure h⟩))) hsz)
end
def tRev3 (K : Frag) (te : TE) : TE := fun σ H Q => te σ H fun v H1 => ∃ a x y z, v = .ref a ∧ SqT K H1 a [x, y, z] ∧ ∀ p, H1 p = none → Q (.ref p) (upd H1 p (.tup [z, y, x]))
theorem pe_rev3 {X : Cx} (K : Frag) (hK : X.K = K) {e : Expr} {te : TE} {k : Nat} {p1 p2 p3 pos : Pos} (he : PE X e te) : PE X (.Subscript e (.Slice none none (some (.UnaryOp .USub (.Constant (.int 1) k p1) p2)) p3) pos) (tRev3 K te) := by
  subst hK
  refine ⟨fun pins s σ H Q I h => ?_⟩
  refine Subscript_ (thn (he.run pins s σ H _ I h) fun v s1 ⟨w, H1, I1, r1, q1⟩ => ?_)
  obtain ⟨a, x, y, z, ex, hx, q⟩ := q1
  subst ex
  cases r1
  have hst : PO X (some (.UnaryOp .USub (.Constant (.int 1) k p1) p2)) (tPart (tUn (rU fun i => .int (-i)) (tC (.int 1)))) := po_some (pe_un un_neg pe_int)
  refine wpAny_Slice (thn (po_none.run pins s1 σ H1 (fun o H2 => o = none ∧ H2 = H1) I1 ⟨rfl, rfl⟩) fun vl s2 ⟨l, H2, I2, pl, el, e2⟩ => ?_)
  subst el e2
  cases pl
  refine thn (po_none.run pins s2 σ H2 (fun o H3 => o = none ∧ H3 = H2) I2 ⟨rfl, rfl⟩) fun vu s3 ⟨u, H3, I3, pu, eu, e3⟩ => ?_
  subst eu e3
  cases pu
  refine thn (hst.run pins s3 σ H3 (fun o H4 => o = some (-1) ∧ H4 = H3) I3 ⟨1, rfl, -1, rfl, rfl, rfl⟩) fun vs s4 ⟨o, H4, I4, ps, eo, e4⟩ => ?_
  subst eo e4
  cases ps with
  | int i t =>
    have I5 : L2.Inv X pins σ H4 { s4 with heap := s4.heap.push { cls := .type "slice", data := .fields #[.none, .none, .int (-1) t] } } := I4.kept (t' := s4.toks) fun b ob q => Heap.get?_push_of_some _ q
    obtain ⟨its, r, ht, hz⟩ := I5.tuple hx
    obtain ⟨u1, u2, u3, rfl, r1, r2, r3⟩ : ∃ u1 u2 u3, its = [u1, u2, u3] ∧ RelV x u1 ∧ RelV y u2 ∧ RelV z u3 := by
      cases r with
      | cons r1 r => cases r with
        | cons r2 r => cases r with
          | cons r3 r => cases r; exact ⟨_, _, _, rfl, r1, r2, r3⟩
    show wpAny (model X.prog X.w) X.A (subscriptTail e (.Slice none none (some (.UnaryOp .USub (.Constant (.int 1) k p1) p2)) p3) (.ref a) (.ref s4.heap.objs.size)) (EP X pins σ Q) X.xe { s4 with heap := s4.heap.push { cls := .type "slice", data := .fields #[.none, .none, .int (-1) t] } }
    refine tail_any (ops := [.ref a, .ref s4.heap.objs.size]) ht.typeIs PyProof.Rows.slot_tuple_getitem.lookup ?_ (by with_unfolding_all rfl)
    refine getItem_rev3 ht (Heap.IsSliceOf.new _ .none .none (.int (-1) t)) ?_
    refine ⟨.ref _, _, I5.laid (t' := s4.toks) (o := .tup [z, y, x]) (fun b ob q => Heap.get?_push_of_some _ q) (Nat.le_refl _) ?_, rfl, q _ (I5.hok.fresh (Nat.le_refl _))⟩
    exact ⟨by show 3 ≤ sizeLine; decide, [u3, u2, u1], .cons r3 (.cons r2 (.cons r1 .nil)), IsTup.new _ _⟩
/-! ### loops and comprehensions, further -/
section
variable {K : Frag} {σ : L2.St} {F H : Hp} {D : L2.Ends} {tl te : TE} {t : TT} {tz tbd : TS} {j k : Nat} {ds : List PyData} {tA : TA}
/-- for i, x in enumerate(xs) -/
theorem s_forE {a : Addr} {xs : List V} (h : ∀ Q : List V → Hp → Prop, (∀ F1 H1, Fr M0 F H F1 H1 → Q [.ref a] H1) → tA σ H Q) (s : Same F H) (ex : F a = some (.lst xs))
    (kk : ∀ F1 H1, Fr M0 F H F1 H1 → ∃ Pv : Nat → L2.St → Hp → Prop, Pv 0 σ H1 ∧ (∀ i σ' H', Pv i σ' H' → Same F H') ∧
      (∀ i x T σ' H', xs[i]? = some x → Pv i σ' H' → H' T = none → tbd { D with nx := Pv (i + 1), ct := Pv (i + 1), bk := tz D } ((σ'.set j (some (.int (i : Int)))).set k (some x)) (upd H' T (.tup [.int (i : Int), x]))) ∧ (∀ σ' H', Pv xs.length σ' H' → tz D σ' H')) :
    tSeq (tFor (iEnum K tA) (gTup K 2 (gCons (gName j) (gCons (gName k) gNil))) tbd) tz D σ H := h _ fun F1 H1 f1 => by
  obtain ⟨Pv, h0, hs, ht, he⟩ := kk F1 H1 f1
  refine ⟨a, xs, rfl, SqL.of (f1.fh _ _ (f1.ff _ _ ex)), for_it (D := { D with nx := tz D }) (walk_enum (xs := xs)) Pv h0 (fun i σ' H' _ p => SqL.of (hs i σ' H' p _ _ ex)) (fun i x σ' H' H'' hi p y => ?_) he⟩
  obtain ⟨T, x1, y1, rfl, nT, rfl, e1, e2⟩ := y
  cases e1
  exact ⟨T, [.int (i : Int), y1], rfl, SqT.of upd_same, rfl, _, _, rfl, _, _, rfl, rfl, ht i y1 T σ' H' e2 p nT⟩
/-- [.. for i in range(n)] of data, no condition -/
theorem eo_lcR {n : Nat} {vs : List Nat} (g : Nat → PyData) (h : EvA tA σ F [.int (n : Int)]) (hn : n ≤ 100000) (hw : ∀ x, wipe ((wipe σ vs).set j (some x)) vs = wipe σ vs)
    (he : ∀ (i : Nat) F1, i < n → Same F F1 → EvF te ((wipe σ vs).set j (some (.int (i : Int)))) F1 (g i)) : EvO (tLc (iRng1 tA) (gName j) tYes te vs) σ F ((List.range n).map g) := fun H0 s Q q => h H0 s _ fun zs F1 H1 f1 dz => by
  cases dz with
  | cons d1 dz =>
    cases dz
    cases d1.intE
    refine ⟨(n : Int), rfl, by omega, by omega, fun Dl nD => ?_⟩
    refine lc_range (lo := 0) (n := (n : Int).toNat) (fun i H' => ∃ F' vs', Fr (fun a => a = Dl) F1 (upd H1 Dl (.lst [])) F' H' ∧ H' Dl = some (.lst vs') ∧ DqAll F' vs' ((List.range i).map g)) ?_ ?_ ?_
    · exact ⟨F1, [], Fr.refl (fun a o e => by rw [upd_ne (ne_of_none (f1.fh _ _ e) nD)]; exact f1.fh _ _ e), upd_same, .nil⟩
    · rintro i H' hi ⟨F', vs', fr, hD, dvs⟩
      have hi' : i < n := by omega
      refine ⟨hw _, ?_⟩
      have nDF : F' Dl = none := fr.nw Dl _ (f1.fh.free nD) upd_same
      have e0 : (0 : Int) + (i : Int) = (i : Int) := Int.zero_add _
      show te ((wipe σ vs).set j (some (.int ((0 : Int) + (i : Int))))) H' _
      rw [e0]
      refine he i F' hi' (fun a o e => fr.ff _ _ (f1.ff _ _ e)) H' fr.fh _ fun v F3 H3 f3 dv3 => ?_
      have hD3 : H3 Dl = some (.lst vs') := f3.hh _ _ hD fun z => z
      have nD3 : F3 Dl = none := f3.nw _ _ nDF hD
      have hl : vs'.length = i := by rw [dvs.length, List.length_map, List.length_range]
      refine ⟨vs', hD3, by rw [hl, sizeLine_eq]; omega, F3, vs' ++ [v], (fr.trans f3.up).trans (Fr.put f3.fh nD3 rfl), upd_same, ?_⟩
      rw [List.range_succ, List.map_append]
      exact (dvs.mono f3.ff).append (.cons dv3 .nil)
    · rintro H' ⟨F', vs', fr, hD, dvs⟩
      rw [Int.toNat_natCast] at dvs
      exact q Dl vs' F' H' (f1.trans (fr.unown nD fun a z => .inl z)) (f1.st _ nD) (fr.nw Dl _ (f1.fh.free nD) upd_same) hD dvs
end
end Lx

set_option Elab.async false
set_option linter.all false
set_option maxRecDepth 100000
set_option maxHeartbeats 4000000
/-! Lc: comprehensions of lists, sets and dicts with any number of clauses, over the hand layer. -/
namespace Lc
open PySem PySem.Spec PyProof.Rows L2

/-- which comprehension, and its element -/
inductive Kd where
  | list (elt : Expr)
  | set (elt : Expr)
  | dict (kx vx : Expr)
def Kd.expr : Kd → List Comprehension → Scope → Pos → Expr
  | .list elt, gs, sc, p => .ListComp elt gs sc p
  | .set elt, gs, sc, p => .SetComp elt gs sc p
  | .dict kx vx, gs, sc, p => .DictComp kx vx gs sc p
/-- what the innermost turn does -/
def Kd.emit : Kd → Env → Value → Sem Unit
  | .list elt, env, acc => do let _ ← call (.builtin "list.append") [acc, ← eval elt env]
  | .set elt, env, acc => do let v ← eval elt env; standAt elt.pos; let _ ← call (.builtin "set.add") [acc, v]
  | .dict kx vx, env, acc => do
        let kv ← eval kx env
        let vv ← holding [kv] (eval vx env)
        match acc with
        | .ref d => do
          standAt { kx.pos with endLine := vx.pos.endLine, endCol := vx.pos.endCol }
          holding [kv, vv] (dictSet d kv vv)
        | _ => unsupported "internal:dictcomp"
/-- what stands within the tests of the clause at a depth -/
def inner (kd : Kd) (gs : List Comprehension) (sc : Scope) (p : Pos) (d : Nat) (acc : Value) (env : Env) : Sem Unit :=
  match gs[d]? with
  | some g' => do
        let x ← eval g'.iter env
        standAt g'.iter.pos
        let x ← if g'.is_async != 0 then foldedIterable g'.iter x else foldedSetIterable g'.iter env x
        let _ ← runOwn (.compStart (kd.expr gs sc p) d (← holding [x] (if g'.is_async != 0 then asyncIter x else pyIter x)) acc env) env
  | none => kd.emit env acc
theorem turn_eq (kd : Kd) (gs : List Comprehension) (sc : Scope) (p : Pos) (d : Nat) (it acc : Value) (env : Env) {tg iter : Expr} {ifs : List Expr} (h : gs[d]? = some ⟨tg, iter, ifs, 0⟩) (ha : ∀ g' ∈ gs, g'.is_async = 0) :
    compTurn (kd.expr gs sc p) d it acc env = (do
      standAt iter.pos
      match ← pyNext it with
      | none => pure (.done .next)
      | some v =>
        letOwnedTupleGo tg it v
        assign tg env v
        let mut ok := true
        for c in ifs do
          if ok then ok ← isTrue c env (eval c env)
        if ok then
          inner kd gs sc p (d + 1) acc env
        again (.compLoop (kd.expr gs sc p) d it acc env)) := by
  unfold inner
  cases h2 : gs[d + 1]? with
  | none => cases kd <;> (unfold compTurn Kd.expr; simp only [h]; rw [h2]; first | rfl | (simp only [bind_assoc]; rfl))
  | some g' =>
    obtain ⟨tg', iter', ifs', n⟩ := g'
    have hz : n = 0 := ha _ (List.mem_of_getElem? h2)
    subst hz
    have z : ((0 : Int) != 0) = false := rfl
    cases kd <;> (unfold compTurn Kd.expr; simp only [h]; rw [h2]; simp only [z, Bool.false_eq_true, if_false, bind_assoc]; try rfl)
theorem inner_more (kd : Kd) (gs : List Comprehension) (sc : Scope) (p : Pos) (d : Nat) (acc : Value) (env : Env) {tg iter : Expr} {ifs : List Expr} (h : gs[d]? = some ⟨tg, iter, ifs, 0⟩) :
    inner kd gs sc p d acc env = (do
        let x ← eval iter env
        standAt iter.pos
        let x ← foldedSetIterable iter env x
        let _ ← runOwn (.compStart (kd.expr gs sc p) d (← holding [x] (pyIter x)) acc env) env) := by
  unfold inner
  rw [h]
  rfl
theorem inner_last (kd : Kd) (gs : List Comprehension) (sc : Scope) (p : Pos) (d : Nat) (acc : Value) (env : Env) (h : gs[d]? = none) : inner kd gs sc p d acc env = kd.emit env acc := by
  unfold inner
  rw [h]

section
variable {prog : Program} {w : World} {A : Around} {R : Result → Shared → Prop} {s : Shared} {env : Env} {kd : Kd} {gs : List Comprehension} {sc : Scope} {p : Pos} {d : Nat} {it acc : Value} {tg iter : Expr} {ifs : List Expr}
theorem loop_any (h : gs[d]? = some ⟨tg, iter, ifs, 0⟩) (ha : ∀ g' ∈ gs, g'.is_async = 0) (I : Nat → Shared → Prop)
    (turn : ∀ n s, I n s → wpAny (model prog w) A (pyNext it) (fun r s1 => match r with
      | none => R (.ok .next) s1
      | some v => wpAny (model prog w) A (letOwnedTupleGo tg it v) (fun _ s1' => wpAny (model prog w) A (assign tg env v) (fun _ s2 =>
          wpAny (model prog w) A (forIn ifs true fun c r => if r = true then do let ok ← isTrue c env (eval c env); pure (ForInStep.yield ok) else pure (ForInStep.yield r)) (fun ok s3 =>
            if ok = true then wpAny (model prog w) A (inner kd gs sc p (d + 1) acc env) (fun _ s5 => ∃ m, m < n ∧ I m s5) (notedBy (model prog w) A env fun e s' => R (.error e) s') s3
            else ∃ m, m < n ∧ I m s3) (notedBy (model prog w) A env fun e s' => R (.error e) s') s2) (notedBy (model prog w) A env fun e s' => R (.error e) s') s1') (notedBy (model prog w) A env fun e s' => R (.error e) s') s1) (notedBy (model prog w) A env fun e s' => R (.error e) s') s)
    (n : Nat) (h0 : I n s) : codeAny (model prog w) A (.compLoop (kd.expr gs sc p) d it acc env) R s := by
  refine codeAny_loop (by cases kd <;> rfl) I (fun n s hI => ?_) n h0
  have e1 : A.under (.compLoop (kd.expr gs sc p) d it acc env) = A := by cases kd <;> rfl
  have e2 : (model prog w).den (.compLoop (kd.expr gs sc p) d it acc env) = (compTurn (kd.expr gs sc p) d it acc env).onRaise (fun x => do noteFrame x env; theTreesLotGoes x) := by cases kd <;> rfl
  rw [e1, e2]
  refine wpAny_noted ?_
  rw [turn_eq kd gs sc p d it acc env h ha]
  refine wpAny_bind (wpAny_standAt (wpAny_bind (wpAny_mono (turn n s hI) (fun r s1 h1 => ?_) fun _ _ h' => h')))
  cases r with
  | none => exact wpAny_pure h1
  | some v =>
    refine wpAny_bind (wpAny_mono h1 (fun _ s1' h1' => ?_) fun _ _ h' => h')
    refine wpAny_bind (wpAny_mono h1' (fun _ s2 h2 => wpAny_bind (wpAny_mono h2 (fun ok s3 h3 => ?_) fun _ _ h' => h')) fun _ _ h' => h')
    cases ok with
    | false => exact wpAny_pure ⟨rfl, h3⟩
    | true => exact wpAny_bind (wpAny_mono h3 (fun _ s5 h5 => wpAny_pure ⟨rfl, h5⟩) fun _ _ h' => h')
theorem start_any (h : gs[d]? = some ⟨tg, iter, ifs, 0⟩) (h0 : codeAny (model prog w) A (.compLoop (kd.expr gs sc p) d it acc env) R s)
    (h1 : wpAny (model prog w) A (pyIter it) (fun it' s' => codeAny (model prog w) A (.compLoop (kd.expr gs sc p) d it' acc env) R s')
      (notedBy (model prog w) A env fun x s' => R (.error x) s') s) :
    codeAny (model prog w) A (.compStart (kd.expr gs sc p) d it acc env) R s := by
  refine codeAny_of_tree ?_
  have e1 : A.under (.compStart (kd.expr gs sc p) d it acc env) = A := by cases kd <;> rfl
  have e2 : (model prog w).den (.compStart (kd.expr gs sc p) d it acc env) = (compStart (kd.expr gs sc p) d it acc env).onRaise (fun x => do noteFrame x env; standAt theWindowsPlace) := by cases kd <;> rfl
  have e3 : clausesOf (kd.expr gs sc p) = gs := by cases kd <;> rfl
  have e4 : (Code.compLoop (kd.expr gs sc p) d it acc env).quiet = true := by cases kd <;> rfl
  have e5 : ∀ it', (Code.compLoop (kd.expr gs sc p) d it' acc env).quiet = true := fun it' => by cases kd <;> rfl
  rw [e1, e2]
  refine wpAny_notedAt ?_
  unfold compStart
  rw [e3, h]
  show wpAny _ _ (ask >>= _) _ _ s
  refine wpAny_bind (wpAny_askSetting (wpAny_ite ?_))
  split
  · first
      | exact wpAny_bind (wpAny_pure (wpAny_pure (And.intro e4 h0)))
      | exact wpAny_pure (And.intro e4 h0)
  · first
      | exact wpAny_bind (wpAny_rule (wpAny_bind (wpAny_standAt (wpAny_bind (wpAny_mono h1 (fun it' s' h' => wpAny_pure (And.intro (e5 it') h')) fun _ _ x => x)))))
      | (refine wpAny_bind (wpAny_rule ?_); show wpAny _ _ (standAt iter.pos >>= _) _ _ s; exact wpAny_bind (wpAny_standAt (wpAny_bind (wpAny_mono h1 (fun it' s' h' => wpAny_pure (And.intro (e5 it') h')) fun _ _ x => x))))
end

/-- what is known at other places than vs stays known -/
def Weak (vs : List Nat) (σ σ' : L2.St) : Prop := σ'.length = σ.length ∧ ∀ (j : Nat) v, j ∉ vs → σ[j]? = some (some v) → σ'[j]? = some (some v)
theorem Weak.refl (vs : List Nat) (σ : L2.St) : Weak vs σ σ := ⟨rfl, fun _ _ _ e => e⟩
theorem wipe_weak (σ : L2.St) (vs : List Nat) : Weak vs σ (wipe σ vs) := ⟨wipe_length σ vs, fun j v n e => by rw [wipe_out n]; exact e⟩
abbrev TCl := L2.St → Hp → (Hp → Prop) → Prop
section
variable {X : Cx} {s3 : Shared} {H3 : Hp} {sc : Scope} {ce : Env} {fp : List Addr} {kd : Kd} {gs : List Comprehension} {sc' : Scope} {p : Pos} {D : Addr} {d : Nat}
def InnerOk (Y : Cx) (kd : Kd) (gs : List Comprehension) (sc : Scope) (p : Pos) (D : Addr) (d : Nat) (vs : List Nat) (t : TCl) : Prop :=
  ∀ (pins : List (Addr × Obj)) (s : Shared) (σ : L2.St) (H : Hp) (Nx : Hp → Prop), Inv Y pins σ H s → t σ H Nx →
    wpAny (model Y.prog Y.w) Y.A (inner kd gs sc p d (.ref D) Y.env) (fun _ s' => ∃ σ' H', Inv Y pins σ' H' s' ∧ Weak vs σ σ' ∧ Nx H') Y.xe s
/-- a list's element -/
def tEl (te : TE) (D : Addr) : TCl := fun σ H Nx => te σ H fun y H7 => ∃ acc, H7 D = some (.lst acc) ∧ acc.length < sizeLine ∧ Nx (upd H7 D (.lst (acc ++ [y])))
theorem emit_list {Y : Cx} {elt : Expr} {te : TE} (h : gs[d]? = none) (he : PE Y elt te) : InnerOk Y (.list elt) gs sc p D d [] (tEl te D) := by
  intro pins s σ H Nx I q
  rw [inner_last (.list elt) gs sc p d (.ref D) Y.env h]
  refine wpAny_bind (thn (he.run pins s σ H _ I q) fun z s1 ⟨y, H7, I7, r7, acc, hD, hz, nx⟩ => wpAny_bind (app_ok I7 hD hz r7 fun s2 I2 => wpAny_pure ⟨σ, _, I2, Weak.refl _ _, nx⟩))
/-- what set.add asks -/
def AddR (Y : Cx) (D : Addr) (r : V → Hp → (Hp → Prop) → Prop) : Prop := ∀ (pins : List (Addr × Obj)) (s : Shared) (σ : L2.St) (H : Hp) (y : V) (v : Value) (Nx : Hp → Prop), Inv Y pins σ H s → RelV y v → r y H Nx →
  wpAny (model Y.prog Y.w) Y.A (call (.builtin "set.add") [.ref D, v]) (fun _ s' => ∃ H', Inv Y pins σ H' s' ∧ Nx H') Y.xe s
theorem emit_set {Y : Cx} {elt : Expr} {te : TE} {r : V → Hp → (Hp → Prop) → Prop} (h : gs[d]? = none) (he : PE Y elt te) (hr : AddR Y D r) : InnerOk Y (.set elt) gs sc p D d [] (fun σ H Nx => te σ H fun y H7 => r y H7 Nx) := by
  intro pins s σ H Nx I q
  rw [inner_last (.set elt) gs sc p d (.ref D) Y.env h]
  refine wpAny_bind (thn (he.run pins s σ H _ I q) fun z s1 ⟨y, H7, I7, r7, nx⟩ => wpAny_bind (wpAny_standAt (wpAny_bind (thn (hr pins _ σ H7 y z Nx I7 r7 nx) fun _ s2 ⟨H8, I8, n8⟩ => wpAny_pure ⟨σ, H8, I8, Weak.refl _ _, n8⟩))))
/-- what a dict's entry asks -/
def PutR (Y : Cx) (D : Addr) (r : V → V → Hp → (Hp → Prop) → Prop) : Prop := ∀ (pins : List (Addr × Obj)) (s : Shared) (σ : L2.St) (H : Hp) (x y : V) (u v : Value) (Nx : Hp → Prop), Inv Y pins σ H s → RelV x u → RelV y v → r x y H Nx →
  wpAny (model Y.prog Y.w) Y.A (dictSet D u v) (fun _ s' => ∃ H', Inv Y pins σ H' s' ∧ Nx H') Y.xe s
theorem emit_dict {Y : Cx} {kx vx : Expr} {tk tv : TE} {r : V → V → Hp → (Hp → Prop) → Prop} (h : gs[d]? = none) (hk : PE Y kx tk) (hv : PE Y vx tv) (hr : PutR Y D r) :
    InnerOk Y (.dict kx vx) gs sc p D d [] (fun σ H Nx => tk σ H fun x H1 => tv σ H1 fun y H2 => r x y H2 Nx) := by
  intro pins s σ H Nx I q
  rw [inner_last (.dict kx vx) gs sc p d (.ref D) Y.env h]
  refine wpAny_bind (thn (hk.run pins s σ H _ I q) fun u s1 ⟨x, H1, I1, r1, q1⟩ => wpAny_bind (wpAny_holding (thn (hv.run pins s1 σ H1 _ I1 q1) fun v s2 ⟨y, H2, I2, r2, q2⟩ => ?_)))
  exact wpAny_bind (wpAny_standAt (wpAny_holding (thn (hr pins _ σ H2 x y u v Nx I2 r1 r2 q2) fun _ s2 ⟨H8, I8, n8⟩ => ⟨σ, H8, I8, Weak.refl _ _, n8⟩)))
/-- one clause, inner ones within -/
def tCl (wi : TI) (g : TG) (tt : TT) (t : TCl) (vs : List Nat) : TCl := fun σ H Nx => wi σ H fun J H4 => ∃ W1 : Nat → Nat → Hp → Prop, (∃ m, W1 0 m H4) ∧ ∀ j k H, W1 j k H →
  (J.stop j H ∧ Nx H) ∨ (J.go j H ∧ ∃ Nx1 : Hp → Prop, (∀ H', Nx1 H' → ∃ k', k' < k ∧ W1 (j + 1) k' H') ∧ ∀ x H', J.yld j H x H' → g x (wipe σ vs) H' fun σ3 H5 => wipe σ3 vs = wipe σ vs ∧ tt σ3 H5 fun b H6 => if b = true then t σ3 H6 Nx1 else Nx1 H6)
/-- the loop of one clause in a block, from the slots rho that each turn begins with -/
theorem walk_loop {g : TG} {tt : TT} {t : TCl} {vs vs' : List Nat} {tg iter : Expr} {ifs : List Expr} {pins : List (Addr × Obj)} {rho : L2.St} {J : It} {at_ : List Addr} {tn : Nat → Heap → Prop} {it : Addr} {Nx : Hp → Prop} {W : Nat → Nat → Hp → Prop} {R : Result → Shared → Prop}
    (hc : X.calm = true) (hd : gs[d]? = some ⟨tg, iter, ifs, 0⟩) (ha : ∀ g' ∈ gs, g'.is_async = 0) (T : Turn X.prog X.w X.K tg J at_ it tn)
    (hg : PG (X.blk s3 H3 sc' ce fp) tg g) (ht : PTs (X.blk s3 H3 sc' ce fp) ifs tt) (hin : InnerOk (X.blk s3 H3 sc' ce fp) kd gs sc p D (d + 1) vs' t) (hsub : ∀ i ∈ vs', i ∈ vs)
    (stand : ∀ {sg : L2.St} {H : Hp} {s : Shared}, Inv (X.blk s3 H3 sc' ce fp) pins sg H s → (∀ b ∈ at_, H b = none) → ∀ b ∈ at_, FpOk (X.blk s3 H3 sc' ce fp) pins H b)
    (turn : ∀ i k H, W i k H → (J.stop i H ∧ Nx H) ∨ (J.go i H ∧ ∃ N1 : Hp → Prop, (∀ H', N1 H' → ∃ k', k' < k ∧ W (i + 1) k' H') ∧ ∀ x H', J.yld i H x H' → g x rho H' fun sg H5 => wipe sg vs = rho ∧ tt sg H5 fun b H6 => if b = true then t sg H6 N1 else N1 H6))
    (done : ∀ H s, Inv (X.blk s3 H3 sc' ce fp) pins rho H s → Nx H → R (.ok .next) s)
    {s : Shared} {H : Hp} (I : Inv (X.blk s3 H3 sc' ce fp) pins rho H s) (st : tn 0 s.heap) (nf : ∀ b ∈ at_, H b = none) (m : Nat) (w0 : W 0 m H) :
    codeAny (model X.prog X.w) X.A (.compLoop (kd.expr gs sc p) d (.ref it) (.ref D) ce) R s := by
  refine loop_any hd ha (fun k s' => ∃ i H', W i k H' ∧ Inv (X.blk s3 H3 sc' ce fp) pins rho H' s' ∧ tn i s'.heap ∧ ∀ b ∈ at_, H' b = none) ?_ m ⟨0, H, w0, I, st, nf⟩
  rintro k sA ⟨i, HA, wA, IA, stA, nA⟩
  cases turn i k HA wA with
  | inl e =>
    refine thnF (T.done (X.blk s3 H3 sc' ce fp) rfl rfl rfl hc i pins sA rho HA (fun _ _ => False) IA (stand IA nA) stA e.1) fun r sB hB => ?_
    cases hB.1
    exact done HA sB hB.2 e.2
  | inr e =>
    obtain ⟨go, N1, hN1, step⟩ := e
    refine thnF (T.item (X.blk s3 H3 sc' ce fp) rfl rfl rfl hc i pins sA rho HA (fun _ _ => False) IA (stand IA nA) stA go) fun r sB hB => ?_
    obtain ⟨u, er, hB⟩ := hB
    cases er
    refine thnF hB fun _ sC hC => ?_
    obtain ⟨x, HC, IC, rx, yC, stC, nC⟩ := hC
    have kept : ∀ {sg sg' : L2.St} {s' : Shared} {H' : Hp}, wipe sg vs = rho → Inv (X.blk s3 H3 sc' ce fp) (pins ++ pinsAt at_ sC.heap) sg' H' s' → Weak vs' sg sg' → N1 H' →
        ∃ k', k' < k ∧ ∃ i H', W i k' H' ∧ Inv (X.blk s3 H3 sc' ce fp) pins rho H' s' ∧ tn i s'.heap ∧ ∀ b ∈ at_, H' b = none := by
      intro sg sg' s' H' hw I' wk n1
      obtain ⟨k', lt, w1⟩ := hN1 H' n1
      have same : ∀ b ∈ at_, ∀ o, sC.heap.get? b = some o → s'.heap.get? b = some o ∧ H' b = none := by
        intro b hb o eo
        have q := I'.pin (b, o) (List.mem_append_right _ (List.mem_append_right _ (mem_pinsAt hb eo)))
        exact ⟨q.1, q.2.1⟩
      have known : ∀ (j : Nat) v, rho[j]? = some (some v) → sg'[j]? = some (some v) := by
        intro j v ej
        subst hw
        have q := wipe_some ej
        exact wk.2 j v (fun z => q.2 (hsub j z)) q.1
      have len : rho.length = sg'.length := by rw [wk.1, ← hw, wipe_length]
      refine ⟨k', lt, i + 1, H', w1, I'.unpinned.weak len known, T.keep _ _ _ stC fun b hb o eo => (same b hb o eo).1, fun b hb => ?_⟩
      obtain ⟨o, eo, _⟩ := T.obj _ _ stC b hb
      exact (same b hb o eo).2
    refine thnF (hg.run _ sC rho HC x u _ (IC.pinned (stand IC nC) (T.obj _ _ stC)) rx (step x HC yC)) fun _ sD hD => ?_
    obtain ⟨sg, HD, ID, hw, tD⟩ := hD
    refine thnF (ht.run _ sD sg HD _ ID tD) fun b sE hE => ?_
    obtain ⟨HE, IE, qE⟩ := hE
    cases b with
    | false =>
      rw [if_neg (by decide)] at qE ⊢
      exact kept hw IE (Weak.refl _ _) qE
    | true =>
      rw [if_pos rfl] at qE ⊢
      refine thnF (hin _ sE sg HE N1 IE qE) fun _ sF hF => ?_
      obtain ⟨sg', HF, IF, wk, n1⟩ := hF
      exact kept hw IF wk n1
theorem inner_loop {wi : TI} {g : TG} {tt : TT} {t : TCl} {vs vs' : List Nat} {tg iter : Expr} {ifs : List Expr} (hc : X.calm = true) (h : gs[d]? = some ⟨tg, iter, ifs, 0⟩) (ha : ∀ g' ∈ gs, g'.is_async = 0)
    (hi : PI (X.blk s3 H3 sc' ce fp) tg iter wi) (hg : PG (X.blk s3 H3 sc' ce fp) tg g) (ht : PTs (X.blk s3 H3 sc' ce fp) ifs tt) (hs : ∀ x, foldedSetIterable iter ce x = pure x)
    (hin : InnerOk (X.blk s3 H3 sc' ce fp) kd gs sc p D (d + 1) vs' t) (hsub : ∀ i ∈ vs', i ∈ vs) : InnerOk (X.blk s3 H3 sc' ce fp) kd gs sc p D d vs (tCl wi g tt t vs) := by
  intro pins s σ H Nx I q
  rw [inner_more kd gs sc p d (.ref D) _ h]
  refine wpAny_bind (thn (hi.run pins s σ H _ I q) fun xv s1 hx => ?_)
  refine wpAny_bind (wpAny_standAt (wpAny_bind (wpAny_of_eq (hs xv) (wpAny_bind (wpAny_holding (thn hx fun itv s2 h2 => ?_))))))
  obtain ⟨it, at_, tn, J, H2, rfl, I2, T, st, f2, W, ⟨m, w0⟩, turn⟩ := h2
  have loop : codeAny (model X.prog X.w) X.A (.compLoop (kd.expr gs sc p) d (.ref it) (.ref D) ce) (fun r s' => match r with
      | .ok _ => ∃ σ' H', Inv (X.blk s3 H3 sc' ce fp) pins σ' H' s' ∧ Weak vs σ σ' ∧ Nx H'
      | .error _ => False) s2 :=
    walk_loop hc h ha T hg ht hin hsub (fun _ hn b hb => ⟨hn b hb, (f2 b hb).2⟩) turn (fun H' s' I' n => ⟨_, H', I', wipe_weak σ vs, n⟩) (I2.weak (wipe_length _ _) fun j v e => (wipe_some e).1) st (fun b hb => (f2 b hb).1) m w0
  refine wpAny_bind (wpAny_runOwn ?_)
  rw [Around.mark_none]
  refine codeAny_mono (start_any h loop (T.self X.A 0 _ _ _ st loop)) fun r s' hr => ?_
  cases r with
  | ok f => exact wpAny_pure hr
  | error e => exact hr.elim
end

section
variable {X : Cx}
/-- a comprehension: its new object at D, the first clause's walk, the rest within -/
def tComp (wi : TI) (g : TG) (tt : TT) (t : Addr → TCl) (vs : List Nat) (ho : Addr → HO) : TE := fun σ H Q => wi σ H fun J H1 => ∀ D, H1 D = none → ∃ W : Nat → Nat → Hp → Prop, (∃ m, W 0 m (upd H1 D (ho D))) ∧ ∀ i m H, W i m H →
  (J.stop i H ∧ Q (.ref D) H) ∨ (J.go i H ∧ ∃ Nx : Hp → Prop, (∀ H', Nx H' → ∃ m', m' < m ∧ W (i + 1) m' H') ∧ ∀ x H', J.yld i H x H' → g x (wipe σ vs) H' fun σ2 H2 => wipe σ2 vs = wipe σ vs ∧ tt σ2 H2 fun b H3 =>
    if b = true then t D σ2 H3 Nx else Nx H3)
theorem comp_core {pins : List (Addr × Obj)} {s : Shared} {σ : L2.St} {H : Hp} {Q : VK} {kd : Kd} {gs : List Comprehension} {tg iter : Expr} {ifs : List Expr} {scope : Scope} {own : List (Str × Nat)} {p pos' : Pos} {wi : TI} {g : TG} {tt : TT} {t : Addr → TCl} {vs' : List Nat} {use : Option (Value → Sem Unit)} {Qf : Value → Shared → Prop} {newAcc : Sem Value} {o0 : Obj} {ho : Addr → HO}
    (hc : X.calm = true) (hN : X.N.Nodup) (h0 : gs[0]? = some ⟨tg, iter, ifs, 0⟩) (ha : ∀ g' ∈ gs, g'.is_async = 0) (I : Inv X pins σ H s) (hi : PI X tg iter wi) (ok : BlkOk X.N X.env.scope scope own)
    (hnew : ∀ (s : Shared) (E : Value → Shared → Prop) (Q : Value → Shared → Prop), Q (.ref s.heap.objs.size) { s with heap := s.heap.push o0 } → wpAny (model X.prog X.w) X.A newAcc Q E s)
    (hobj : ∀ (H : Hp) (h : Heap), sysModules < h.objs.size → ObjOk X.prog X.w (upd H h.objs.size (ho h.objs.size)) (h.push o0) h.objs.size (ho h.objs.size))
    (hg : ∀ (s : Shared) (H : Hp) (C : Addr) (cl : List (Str × Addr)) (fp : List Addr), PG (X.blk s H scope (compEnvC scope cl C X.env) fp) tg g) (ht : ∀ (s : Shared) (H : Hp) (C : Addr) (cl : List (Str × Addr)) (fp : List Addr), PTs (X.blk s H scope (compEnvC scope cl C X.env) fp) ifs tt)
    (hin : ∀ (s : Shared) (H : Hp) (C : Addr) (cl : List (Str × Addr)) (fp : List Addr) (D : Addr), InnerOk (X.blk s H scope (compEnvC scope cl C X.env) fp) kd gs scope p D 1 vs' (t D)) (hsub : ∀ i ∈ vs', i ∈ own.map (·.2)) (hs : ∀ x, foldedSetIterable iter X.env x = pure x)
    (h : tComp wi g tt t (own.map (·.2)) ho σ H Q)
    (hRR : ∀ D C s' m H', Inv X pins σ H' s' → Q (.ref D) H' → s'.heap.Ns C m → FpOk X pins H' C → compPost (model X.prog X.w) X.A X.xe use Qf (.ref D) C (.ok .next) s') :
    wpAny (model X.prog X.w) X.A (comprehension (kd.expr gs scope p) scope X.env pos' newAcc false (eval iter X.env) use) Qf X.xe s := by
  have hfree : ∀ y ∈ scope.names, y.2 = .free → ∃ c, X.env.cells.lookup y.1 = some c := fun y hy e => by
    rcases ok.free y hy e with k | k
    · exact I.ok.has _ (.inl k)
    · exact I.ok.has _ (.inr k)
  obtain ⟨g0, gr, rfl⟩ : ∃ g0 gr, gs = g0 :: gr := by
    cases gs with
    | nil => cases h0
    | cons g0 gr => exact ⟨g0, gr, rfl⟩
  have e0 : g0 = ⟨tg, iter, ifs, 0⟩ := Option.some.inj h0
  subst e0
  have hcl : clausesOf (kd.expr (⟨tg, iter, ifs, 0⟩ :: gr) scope p) = ⟨tg, iter, ifs, 0⟩ :: gr := by cases kd <;> rfl
  refine wpAny_comprehension_free (use := use) hcl hs (closure_ok hfree) ok.kind (fun y hy e => by rw [ok.uniq y hy, e])
    (thn (hi.run pins s σ H _ I h) fun xv s1 hx => thn hx fun itv s2 h2 => ?_)
  obtain ⟨it, fp, tn, J, H2, e, I2, T, st2, f2, q⟩ := h2
  subst e
  refine hnew s2 _ _ (newEnv_comp ?_)
  generalize hD : s2.heap.objs.size = D
  have hDn : H2 D = none := I2.hok.fresh (Nat.le_of_eq hD)
  obtain ⟨W, ⟨m0, w0⟩, turn⟩ := q D hDn
  generalize hs3 : ({ s2 with heap := s2.heap.push o0 } : Shared) = s3
  have I3 : Inv X pins σ (upd H2 D (ho D)) s3 := by
    rw [← hs3, ← hD]
    exact I2.laid (t' := s2.toks) (fun b o e => Heap.get?_push_of_some _ e) (Nat.le_refl _) (hobj H2 s2.heap I2.big)
  have h3 : s3.heap = s2.heap.push o0 := by rw [← hs3]
  have sz : ∀ b ∈ fp, b < s2.heap.objs.size := fun b hb => by
    obtain ⟨o, e, _⟩ := T.obj _ _ st2 b hb
    exact Heap.lt_size e
  have f3 : ∀ b ∈ fp, FpOk X pins (upd H2 D (ho D)) b ∧ b < s3.heap.objs.size := fun b hb => by
    have hlt := sz b hb
    refine ⟨⟨?_, (f2 b hb).2⟩, by rw [h3, Heap.size_push]; exact Nat.lt_succ_of_lt hlt⟩
    rw [upd_ne (by rw [← hD]; exact Nat.ne_of_lt hlt)]
    exact (f2 b hb).1
  have st3 : tn 0 s3.heap := T.keep _ _ _ st2 fun b _ o e => by rw [h3]; exact Heap.get?_push_of_some _ e
  have I4 := block_start I3 ok hN f3
  have pg := hg s3 (upd H2 D (ho D)) s3.heap.objs.size (cellsFrom (s3.heap.objs.size + 1) scope.names (cloFrom X.env.cells scope.names [])) fp
  have pt := ht s3 (upd H2 D (ho D)) s3.heap.objs.size (cellsFrom (s3.heap.objs.size + 1) scope.names (cloFrom X.env.cells scope.names [])) fp
  have pe := hin s3 (upd H2 D (ho D)) s3.heap.objs.size (cellsFrom (s3.heap.objs.size + 1) scope.names (cloFrom X.env.cells scope.names [])) fp D
  show codeAny _ _ (.compStart (kd.expr (⟨tg, iter, ifs, 0⟩ :: gr) scope p) 0 (.ref it) (.ref D) (compEnvC scope (cellsFrom (s3.heap.objs.size + 1) scope.names (cloFrom X.env.cells scope.names [])) s3.heap.objs.size X.env)) (compPost (model X.prog X.w) X.A X.xe use Qf (.ref D) s3.heap.objs.size) { s3 with heap := pushCells (s3.heap.push { cls := .type "dict", data := .dict #[] }) scope.names }
  have nfp : ∀ b ∈ fp, (upd H2 D (ho D)) b = none := fun b hb => (f3 b hb).1.1
  generalize hce : compEnvC scope (cellsFrom (s3.heap.objs.size + 1) scope.names (cloFrom X.env.cells scope.names [])) s3.heap.objs.size X.env = ce at I4 pg pt pe ⊢
  have cL : ce.locals = s3.heap.objs.size := by subst hce; rfl
  generalize hH3 : upd H2 D (ho D) = H3 at I3 I4 pg pt pe w0 nfp f3
  generalize hs4 : ({ s3 with heap := pushCells (s3.heap.push { cls := .type "dict", data := .dict #[] }) scope.names } : Shared) = s4 at I4 ⊢
  have st4 : tn 0 s4.heap := T.keep _ _ _ st3 fun b _ o e => by rw [← hs4]; exact pushCells_keeps _ _ _ _ (Heap.get?_push_of_some _ e)
  have loop : codeAny (model X.prog X.w) X.A (.compLoop (kd.expr (⟨tg, iter, ifs, 0⟩ :: gr) scope p) 0 (.ref it) (.ref D) ce) (compPost (model X.prog X.w) X.A X.xe use Qf (.ref D) s3.heap.objs.size) s4 := by
    refine walk_loop (tg := tg) (iter := iter) (ifs := ifs) hc rfl ha T pg pt pe hsub (fun {sg H' s'} I' hn b hb => ?_) turn (fun H' s' I' n => ?_) I4 st4 nfp m0 w0
    · have x1 := I'.ok.exf b hb
      exact ⟨hn b hb, x1.1, I'.ok.exfs b hb, .inl hb, fun x c e => x1.2 x c e, fun q hq => by cases hq⟩
    · obtain ⟨m, hm, _⟩ := I'.loc
      have hm : s'.heap.Ns ce.locals m := hm
      have nC : H' ce.locals = none := I'.free
      rw [cL] at hm nC
      exact hRR D s3.heap.objs.size s' m H' (I3.call' (ch := fp) I'.os I'.base I'.hok I'.bare fun b hb => by
        obtain ⟨_, a1, _, a3, a4, a5⟩ := (f3 b hb).1
        exact ⟨a3, a1, a4, a5⟩) n hm (I3.fpOk (Nat.le_refl _) nC)
  exact start_any (tg := tg) (iter := iter) (ifs := ifs) rfl loop (T.self X.A 0 _ _ _ st4 loop)
end
end Lc

set_option Elab.async false
set_option linter.all false
set_option maxRecDepth 100000
set_option maxHeartbeats 1000000
/-! Zi: a second layer over HandS and Ly. Data D (frozen, within a partial heap F), own containers in the slots, cells in a store; each construct as a transformer over such states, sound for the hand layer's reading. -/
namespace Zi
open PySem PySem.Spec PyProof.Rows L2 Ly

/-! ### data -/
inductive D where
  | non | bl (b : Bool) | int (i : Int) | str (x : Str) | lst (ds : List D) | tup (ds : List D) | dic (ks vs : List D) | ins (C : Addr) (ns : List Str) (ds : List D) | dit (t : Bool) (ks vs : List D)
def kD : Key → D
  | .inl i => .int i
  | .inr s => .str s
/-- the world, for the hashes of keys -/
class Wd where
  w : World
variable [Wd]
/-- a key's value: of a dict of tuples; of one of ints and texts -/
def KSh : Bool → NestedKey → V → Prop
  | true, k, v => (∃ ks, k = .tup ks) ∧ k.depth ≤ 8 ∧ ∃ b, v = .ref b
  | false, k, v => (∃ i, k = .num i ∧ v = .int i) ∨ ∃ x, k = .text x ∧ v = .str x
/-- an entry: its key, the key's value, what it holds -/
abbrev DX := NestedKey × V × V
abbrev DZ := NestedKey × Value × Value
abbrev PX (p : DX) (q : DZ) : Prop := p.1 = q.1 ∧ RelV p.2.1 q.2.1 ∧ RelV p.2.2 q.2.2
def entX (x : DZ) : DictEntry := ⟨x.1.hash Wd.w, x.2.1, x.2.2⟩
/-- the dict at d, its epoch, its entries in their order -/
def RawOf (t : Bool) (ep : Nat) (d : Addr) (xs : List DX) (h : Heap) : Prop :=
  xs.length ≤ sizeLine ∧ (d == sysModules) = false ∧ (xs.map (·.1)).Nodup ∧ (∀ x ∈ xs, KSh t x.1 x.2.1) ∧ ∃ (zs : List DZ) (o : Obj) (es : Array DictEntry), Paired PX xs zs ∧ h.get? d = some o ∧ o.ExactDict ∧ o.data = .dict es ep ∧ es.toList = zs.map entX
def ditO (t : Bool) (ep : Nat) (d : Addr) (xs : List DX) : HO := .ext (RawOf t ep d xs)
mutual
/-- data as a key -/
def nk : D → Option NestedKey
  | .int i => some (.num i)
  | .str x => some (.text x)
  | .tup ds => (nkAll ds).map .tup
  | _ => none
def nkAll : List D → Option (List NestedKey)
  | [] => some []
  | d :: ds => match nk d, nkAll ds with
    | some k, some ks => some (k :: ks)
    | _, _ => none
end
mutual
inductive Dv (H : Hp) : V → D → Prop
  | non : Dv H .non .non
  | bl (b : Bool) : Dv H (.bl b) (.bl b)
  | int (i : Int) : Dv H (.int i) (.int i)
  | str (x : Str) : Dv H (.str x) (.str x)
  | lst {a : Addr} {xs : List V} {ds : List D} : H a = some (.lst xs) → DvAll H xs ds → Dv H (.ref a) (.lst ds)
  | tup {a : Addr} {xs : List V} {ds : List D} : H a = some (.tup xs) → DvAll H xs ds → Dv H (.ref a) (.tup ds)
  | dK {a : Addr} {kvs : List (Key × V)} {ds : List D} : H a = some (.dK kvs) → DvAll H (kvs.map (·.2)) ds → Dv H (.ref a) (.dic (kvs.map fun kv => kD kv.1) ds)
  | ins {a C dx : Addr} {fs : List (Str × V)} {ds : List D} : H a = some (.ins C dx fs) → DvAll H (fs.map (·.2)) ds → Dv H (.ref a) (.ins C (fs.map (·.1)) ds)
  | dit {t : Bool} {ep : Nat} {a : Addr} {xs : List DX} {ks ds : List D} : H a = some (ditO t ep a xs) → DvAll H (xs.map (·.2.1)) ks → nkAll ks = some (xs.map (·.1)) → DvAll H (xs.map (·.2.2)) ds → Dv H (.ref a) (.dit t ks ds)
inductive DvAll (H : Hp) : List V → List D → Prop
  | nil : DvAll H [] []
  | cons {v : V} {vs : List V} {d : D} {ds : List D} : Dv H v d → DvAll H vs ds → DvAll H (v :: vs) (d :: ds)
end
mutual
def py : D → PyData
  | .non => .none
  | .bl b => .bool b
  | .int i => .int i
  | .str x => .str x
  | .lst ds => .list (pyAll ds)
  | .tup ds => .tuple (pyAll ds)
  | .dic _ _ => .dict []
  | .ins _ _ _ => .dict []
  | .dit _ _ _ => .dict []
def pyAll : List D → List PyData
  | [] => []
  | d :: ds => py d :: pyAll ds
end
theorem pyAll_map : ∀ ds : List D, pyAll ds = ds.map py
  | [] => rfl
  | d :: ds => by rw [pyAll, pyAll_map ds]; rfl
section
variable {H H' : Hp} {K : PySem.W.Frag}
mutual
theorem Dv.mono (k : ∀ a o, H a = some o → H' a = some o) : ∀ {v : V} {d : D}, Dv H v d → Dv H' v d
  | _, _, .non => .non
  | _, _, .bl b => .bl b
  | _, _, .int i => .int i
  | _, _, .str x => .str x
  | _, _, .lst e h => .lst (k _ _ e) (DvAll.mono k h)
  | _, _, .tup e h => .tup (k _ _ e) (DvAll.mono k h)
  | _, _, .dK e h => .dK (k _ _ e) (DvAll.mono k h)
  | _, _, .ins e h => .ins (k _ _ e) (DvAll.mono k h)
  | _, _, .dit e h1 n h2 => .dit (k _ _ e) (DvAll.mono k h1) n (DvAll.mono k h2)
theorem DvAll.mono (k : ∀ a o, H a = some o → H' a = some o) : ∀ {vs : List V} {ds : List D}, DvAll H vs ds → DvAll H' vs ds
  | _, _, .nil => .nil
  | _, _, .cons h t => .cons (Dv.mono k h) (DvAll.mono k t)
end
mutual
theorem Dv.dq : ∀ {v : V} {d : D}, Dv H v d → (py d).plain = true → Dq H v (py d)
  | _, _, .non, _ => .non
  | _, _, .bl b, _ => .bl b
  | _, _, .int i, _ => .int i
  | _, _, .str x, _ => .str x
  | _, _, .lst e h, p => .lst e (DvAll.dq h (by simpa only [py, PyData.plain] using p))
  | _, _, .tup e h, p => .tup e (DvAll.dq h (by simpa only [py, PyData.plain] using p))
  | _, _, .dK e h, p => by simp only [py, PyData.plain] at p; cases p
  | _, _, .ins e h, p => by simp only [py, PyData.plain] at p; cases p
  | _, _, .dit _ _ _ _, p => by simp only [py, PyData.plain] at p; cases p
theorem DvAll.dq : ∀ {vs : List V} {ds : List D}, DvAll H vs ds → PyData.plainAll (pyAll ds) = true → DqAll H vs (pyAll ds)
  | _, _, .nil, _ => .nil
  | _, _, .cons h t, p => by
    simp only [pyAll, PyData.plainAll, Bool.and_eq_true] at p
    exact .cons (Dv.dq h p.1) (DvAll.dq t p.2)
end
theorem DvAll.length : ∀ {vs : List V} {ds : List D}, DvAll H vs ds → vs.length = ds.length
  | _, _, .nil => rfl
  | _, _, .cons _ t => by rw [List.length_cons, List.length_cons, DvAll.length t]
theorem DvAll.get : ∀ {vs : List V} {ds : List D} {i : Nat} {d : D}, DvAll H vs ds → ds[i]? = some d → ∃ v, vs[i]? = some v ∧ Dv H v d
  | _, _, _, _, .nil, e => by simp at e
  | _, _, 0, _, .cons h _, e => by simp at e; subst e; exact ⟨_, rfl, h⟩
  | _, _, i + 1, _, .cons _ t, e => by simpa using DvAll.get (i := i) t (by simpa using e)
theorem DvAll.getV : ∀ {vs : List V} {ds : List D} {i : Nat} {v : V}, DvAll H vs ds → vs[i]? = some v → ∃ d, ds[i]? = some d ∧ Dv H v d
  | _, _, _, _, .nil, e => by simp at e
  | _, _, 0, _, .cons h _, e => by simp at e; subst e; exact ⟨_, rfl, h⟩
  | _, _, i + 1, _, .cons _ t, e => by simpa using DvAll.getV (i := i) t (by simpa using e)
theorem DvAll.append : ∀ {vs ws : List V} {ds es : List D}, DvAll H vs ds → DvAll H ws es → DvAll H (vs ++ ws) (ds ++ es)
  | _, _, _, _, .nil, s => s
  | _, _, _, _, .cons h t, s => .cons h (DvAll.append t s)
theorem DvAll.take : ∀ {vs : List V} {ds : List D} (n : Nat), DvAll H vs ds → DvAll H (vs.take n) (ds.take n)
  | _, _, 0, _ => .nil
  | _, _, _ + 1, .nil => .nil
  | _, _, n + 1, .cons h t => .cons h (DvAll.take n t)
theorem DvAll.drop : ∀ {vs : List V} {ds : List D} (n : Nat), DvAll H vs ds → DvAll H (vs.drop n) (ds.drop n)
  | _, _, 0, r => r
  | _, _, _ + 1, .nil => .nil
  | _, _, n + 1, .cons _ t => DvAll.drop n t
theorem DvAll.reverse : ∀ {vs : List V} {ds : List D}, DvAll H vs ds → DvAll H vs.reverse ds.reverse
  | _, _, .nil => .nil
  | _, _, .cons h t => by
    rw [List.reverse_cons, List.reverse_cons]
    exact DvAll.append (DvAll.reverse t) (.cons h .nil)
theorem DvAll.eraseIdx : ∀ {vs : List V} {ds : List D} (i : Nat), DvAll H vs ds → DvAll H (vs.eraseIdx i) (ds.eraseIdx i)
  | _, _, _, .nil => .nil
  | _, _, 0, .cons _ t => t
  | _, _, i + 1, .cons h t => .cons h (DvAll.eraseIdx i t)
theorem DvAll.set : ∀ {vs : List V} {ds : List D} {v : V} {d : D} (i : Nat), DvAll H vs ds → Dv H v d → DvAll H (vs.set i v) (ds.set i d)
  | _, _, _, _, _, .nil, _ => .nil
  | _, _, _, _, 0, .cons _ t, q => .cons q t
  | _, _, _, _, i + 1, .cons h t, q => .cons h (DvAll.set i t q)
theorem Dv.intE {v : V} {i : Int} (h : Dv H v (.int i)) : v = .int i := by cases h; rfl
theorem Dv.blE {v : V} {b : Bool} (h : Dv H v (.bl b)) : v = .bl b := by cases h; rfl
theorem Dv.strE {v : V} {b : Str} (h : Dv H v (.str b)) : v = .str b := by cases h; rfl
theorem Dv.nonE {v : V} (h : Dv H v .non) : v = .non := by cases h; rfl
theorem Dv.lstE {v : V} {ds : List D} (h : Dv H v (.lst ds)) : ∃ a xs, v = .ref a ∧ H a = some (.lst xs) ∧ DvAll H xs ds := by cases h with | lst e h => exact ⟨_, _, rfl, e, h⟩
theorem Dv.tupE {v : V} {ds : List D} (h : Dv H v (.tup ds)) : ∃ a xs, v = .ref a ∧ H a = some (.tup xs) ∧ DvAll H xs ds := by cases h with | tup e h => exact ⟨_, _, rfl, e, h⟩
end

/-! ### states -/
/-- a value: data; a cell of the store; a raw value of the hand layer -/
inductive W0 where | d (x : D) | loc (n : Nat)
/-- .. or a tuple of data and cells -/
inductive W where | d (x : D) | loc (n : Nat) | raw (v : V) (φ : Hp → Prop) | tp (us : List W0)
/-- a container -/
inductive Cell where | lst (ds : List D) | dic (kvs : List (Key × D)) | ins (C : Addr) (fs : List (Str × W)) | lsw (ws : List W) | dit (t : Bool) (kds : List (D × D))
/-- a slot: nothing known; a value; a container of its own -/
inductive Sl where | no | v (w : W) | own (c : Cell)
structure AS where
  env : List Sl
  st : List Cell
/-- what an expression gives: a value; the container of a slot -/
inductive R where | w (x : W) | sl (i : Nat)
/-- .. or a new container -/
inductive N where | w (x : W) | new (c : Cell)
abbrev AE := AS → (R → AS → Prop) → Prop
abbrev AN := AS → (N → AS → Prop) → Prop
abbrev AT := AS → (Bool → AS → Prop) → Prop
abbrev AA := AS → (List W → AS → Prop) → Prop
structure AEnds where
  nx : AS → Prop
  rt : N → List Cell → Prop
  bk : AS → Prop := fun _ => False
  ct : AS → Prop := fun _ => False
abbrev ASt := AEnds → AS → Prop
def cellD : Cell → Option D
  | .lst ds => some (.lst ds)
  | .dic kvs => some (.dic (kvs.map fun kv => kD kv.1) (kvs.map (·.2)))
  | .dit t kds => some (.dit t (kds.map (·.1)) (kds.map (·.2)))
  | _ => none
def peekW (s : AS) : W → Option D
  | .d x => some x
  | .loc n => match s.st[n]? with
    | some c => cellD c
    | none => none
  | .raw _ _ => none
  | .tp _ => none
def peek (s : AS) : R → Option D
  | .w w => peekW s w
  | .sl i => match s.env[i]? with
    | some (.own c) => cellD c
    | some (.v w) => peekW s w
    | _ => none

/-! ### what a state says of slots and heap -/
structure Bs where
  G : Hp
  F : Hp
  al : Nat → Addr
  L : Nat
structure Ext (F F' : Hp) (al al' : Nat → Addr) (L L' : Nat) : Prop where
  ff : Same F F'
  ln : L ≤ L'
  al : ∀ n, n < L → al' n = al n
theorem Ext.refl {F : Hp} {al : Nat → Addr} {L : Nat} : Ext F F al al L L := ⟨fun _ _ e => e, Nat.le_refl _, fun _ _ => rfl⟩
theorem Ext.trans {F F1 F2 : Hp} {a a1 a2 : Nat → Addr} {L L1 L2 : Nat} (x : Ext F F1 a a1 L L1) (y : Ext F1 F2 a1 a2 L1 L2) : Ext F F2 a a2 L L2 :=
  ⟨fun p o e => y.ff p o (x.ff p o e), Nat.le_trans x.ln y.ln, fun n h => (y.al n (Nat.lt_of_lt_of_le h x.ln)).trans (x.al n h)⟩
def W0V (F : Hp) (al : Nat → Addr) (L : Nat) : W0 → V → Prop
  | .d x, v => Dv F v x
  | .loc n, v => v = .ref (al n) ∧ n < L
def WV (F : Hp) (al : Nat → Addr) (L : Nat) : W → V → Prop
  | .d x, v => Dv F v x
  | .loc n, v => v = .ref (al n) ∧ n < L
  | .raw u φ, v => v = u ∧ φ F ∧ ∀ F F', Same F F' → φ F → φ F'
  | .tp us, v => ∃ a vs, v = .ref a ∧ F a = some (.tup vs) ∧ Paired (W0V F al L) us vs
abbrev WVs (F : Hp) (al : Nat → Addr) (L : Nat) : List W → List V → Prop := Paired (WV F al L)
theorem Paired.up {α β : Type} {P Q : α → β → Prop} (k : ∀ a b, P a b → Q a b) : ∀ {xs : List α} {ys : List β}, Paired P xs ys → Paired Q xs ys
  | _, _, .nil => .nil
  | _, _, .cons h t => .cons (k _ _ h) (Paired.up k t)
theorem W0V.ext {F F' : Hp} {al al' : Nat → Addr} {L L' : Nat} {w : W0} {v : V} (x : Ext F F' al al' L L') (h : W0V F al L w v) : W0V F' al' L' w v := by
  cases w with
  | d d => exact Dv.mono x.ff h
  | loc n => exact ⟨by rw [x.al n h.2]; exact h.1, Nat.lt_of_lt_of_le h.2 x.ln⟩
theorem WV.ext {F F' : Hp} {al al' : Nat → Addr} {L L' : Nat} {w : W} {v : V} (x : Ext F F' al al' L L') (h : WV F al L w v) : WV F' al' L' w v := by
  cases w with
  | d d => exact Dv.mono x.ff h
  | loc n => exact ⟨by rw [x.al n h.2]; exact h.1, Nat.lt_of_lt_of_le h.2 x.ln⟩
  | raw u φ => exact ⟨h.1, h.2.2 _ _ x.ff h.2.1, h.2.2⟩
  | tp us =>
    obtain ⟨a, vs, e, ea, p⟩ := h
    exact ⟨a, vs, e, x.ff _ _ ea, Paired.up (fun _ _ => W0V.ext x) p⟩
theorem WVs.ext {F F' : Hp} {al al' : Nat → Addr} {L L' : Nat} {ws : List W} {vs : List V} (x : Ext F F' al al' L L') (h : WVs F al L ws vs) : WVs F' al' L' ws vs := Paired.up (fun _ _ => WV.ext x) h
/-- a container's content -/
inductive CO (F : Hp) (al : Nat → Addr) (L : Nat) (p : Addr) : HO → Cell → Prop
  | lst {vs : List V} {ds : List D} : DvAll F vs ds → CO F al L p (.lst vs) (.lst ds)
  | dic {kvs : List (Key × V)} {kds : List (Key × D)} : Paired (fun (p : Key × V) (q : Key × D) => p.1 = q.1 ∧ Dv F p.2 q.2) kvs kds → CO F al L p (.dK kvs) (.dic kds)
  | ins {C dx : Addr} {fs : List (Str × V)} {ws : List (Str × W)} : Paired (fun (p : Str × V) (q : Str × W) => p.1 = q.1 ∧ WV F al L q.2 p.2) fs ws → CO F al L p (.ins C dx fs) (.ins C ws)
  | lsw {vs : List V} {ws : List W} : WVs F al L ws vs → CO F al L p (.lst vs) (.lsw ws)
  | dit {t : Bool} {ep : Nat} {xs : List DX} {kds : List (D × D)} : DvAll F (xs.map (·.2.1)) (kds.map (·.1)) → nkAll (kds.map (·.1)) = some (xs.map (·.1)) → DvAll F (xs.map (·.2.2)) (kds.map (·.2)) → CO F al L p (ditO t ep p xs) (.dit t kds)
theorem CO.ext {F F' : Hp} {al al' : Nat → Addr} {L L' : Nat} {p : Addr} {o : HO} {c : Cell} (x : Ext F F' al al' L L') (h : CO F al L p o c) : CO F' al' L' p o c := by
  cases h with
  | lst h => exact .lst (h.mono x.ff)
  | dic h => exact .dic (Paired.up (fun _ _ z => ⟨z.1, z.2.mono x.ff⟩) h)
  | ins h => exact .ins (Paired.up (fun _ _ z => ⟨z.1, z.2.ext x⟩) h)
  | lsw h => exact .lsw (h.ext x)
  | dit h1 n h2 => exact .dit (h1.mono x.ff) n (h2.mono x.ff)
structure CAt (F : Hp) (al : Nat → Addr) (L : Nat) (H : Hp) (a : Addr) (c : Cell) : Prop where
  f : F a = none
  o : ∃ o, H a = some o ∧ CO F al L a o c
/-- the store -/
structure RelS (B : Bs) (F : Hp) (al : Nat → Addr) (st : List Cell) (H : Hp) : Prop where
  sm : Same F H
  sg : Same B.G H
  fg : ∀ a o, B.G a = some o → F a = none
  ex : Ext B.F F B.al al B.L st.length
  ss : ∀ n m : Nat, n < st.length → m < st.length → al n = al m → n = m
  cl : ∀ (n : Nat) (c : Cell), st[n]? = some c → B.G (al n) = none ∧ CAt F al st.length H (al n) c
structure Rel (B : Bs) (F : Hp) (al : Nat → Addr) (s : AS) (σ : L2.St) (H : Hp) : Prop extends RelS B F al s.st H where
  le : s.env.length ≤ σ.length
  ev : ∀ (i : Nat) (w : W), s.env[i]? = some (Sl.v w) → ∃ v, σ[i]? = some (some v) ∧ WV F al s.st.length w v
  eo : ∀ (i : Nat) (c : Cell), s.env[i]? = some (Sl.own c) → ∃ a : Addr, σ[i]? = some (some (V.ref a)) ∧ B.G a = none ∧ CAt F al s.st.length H a c ∧ (∀ n, n < s.st.length → al n ≠ a) ∧ ∀ (j : Nat) (c' : Cell), s.env[j]? = some (Sl.own c') → σ[j]? = some (some (V.ref a)) → j = i
def RV (F : Hp) (al : Nat → Addr) (L : Nat) (σ : L2.St) : R → V → Prop
  | .w w, v => WV F al L w v
  | .sl i, v => σ[i]? = some (some v)
theorem RV.ext {F F' : Hp} {al al' : Nat → Addr} {L L' : Nat} {σ : L2.St} {r : R} {v : V} (x : Ext F F' al al' L L') (h : RV F al L σ r v) : RV F' al' L' σ r v := by
  cases r with
  | w w => exact WV.ext x h
  | sl i => exact h
/-- a new container beside a state -/
def NV (B : Bs) (F : Hp) (al : Nat → Addr) (st : List Cell) (H : Hp) : N → V → Prop
  | .w w, v => WV F al st.length w v
  | .new c, v => ∃ p, v = .ref p ∧ B.G p = none ∧ CAt F al st.length H p c ∧ ∀ n, n < st.length → al n ≠ p
def NVe (B : Bs) (F : Hp) (al : Nat → Addr) (s : AS) (σ : L2.St) (H : Hp) (n : N) (v : V) : Prop :=
  NV B F al s.st H n v ∧ ∀ c, n = .new c → ∀ (i : Nat) (c' : Cell), s.env[i]? = some (Sl.own c') → σ[i]? ≠ some (some v)

/-! ### soundness of a transformer -/
/-- what is wanted of an exception: its class, its fields, the store -/
abbrev XA := Addr → List (Str × W) → List Cell → Prop
structure EX where
  ec : XK
  ea : XA
def EA (B : Bs) (E : XK) : XA := fun C fs st' => ∀ F' al' H' d vs, RelS B F' al' st' H' → H' d = some (.xd vs) → Paired (fun (p : Str × V) (q : Str × W) => p.1 = q.1 ∧ WV F' al' st'.length q.2 p.2) vs fs → E (.ref C) (some d) H'
def Okx (B : Bs) (Z : EX) : Prop := ∀ C fs st', Z.ea C fs st' → EA B Z.ec C fs st'

def RE (Z : EX) (te : TE) (ae : AE) : Prop := ∀ B, Okx B Z → ∀ F al s σ H (Q : VK) (A : R → AS → Prop), Rel B F al s σ H → ae s A →
  (∀ r s' F' al' H' v, Ext F F' al al' s.st.length s'.st.length → Rel B F' al' s' σ H' → RV F' al' s'.st.length σ r v → A r s' → Q v H') → te σ H Q
def RN (Z : EX) (te : TE) (an : AN) : Prop := ∀ B, Okx B Z → ∀ F al s σ H (Q : VK) (A : N → AS → Prop), Rel B F al s σ H → an s A →
  (∀ n s' F' al' H' v, Ext F F' al al' s.st.length s'.st.length → Rel B F' al' s' σ H' → NVe B F' al' s' σ H' n v → A n s' → Q v H') → te σ H Q
def RT (Z : EX) (tt : TT) (at_ : AT) : Prop := ∀ B, Okx B Z → ∀ F al s σ H (Q : Bool → Hp → Prop) (A : Bool → AS → Prop), Rel B F al s σ H → at_ s A →
  (∀ b s' F' al' H', Ext F F' al al' s.st.length s'.st.length → Rel B F' al' s' σ H' → A b s' → Q b H') → tt σ H Q
def RA (Z : EX) (ta : TA) (aa : AA) : Prop := ∀ B, Okx B Z → ∀ F al s σ H (Q : List V → Hp → Prop) (A : List W → AS → Prop), Rel B F al s σ H → aa s A →
  (∀ ws s' F' al' H' vs, Ext F F' al al' s.st.length s'.st.length → Rel B F' al' s' σ H' → WVs F' al' s'.st.length ws vs → A ws s' → Q vs H') → ta σ H Q
structure RD (B : Bs) (D : Ends) (A : AEnds) : Prop where
  nx : ∀ F al s σ H, Rel B F al s σ H → A.nx s → D.nx σ H
  rt : ∀ F al st H n v, RelS B F al st H → NV B F al st H n v → A.rt n st → D.rt v H
  bk : ∀ F al s σ H, Rel B F al s σ H → A.bk s → D.bk σ H
  ct : ∀ F al s σ H, Rel B F al s σ H → A.ct s → D.ct σ H
def RS (Z : EX) (ts : TS) (as : ASt) : Prop := ∀ B, Okx B Z → ∀ D A, RD B D A → ∀ F al s σ H, Rel B F al s σ H → as A s → ts D σ H

/-! ### reading -/
def Tv (F H : Hp) (v : V) : D → Prop
  | .lst ds => ∃ a vs, v = .ref a ∧ H a = some (.lst vs) ∧ DvAll F vs ds
  | .tup ds => ∃ a vs, v = .ref a ∧ H a = some (.tup vs) ∧ DvAll F vs ds
  | .dic ks ds => ∃ a kvs, v = .ref a ∧ H a = some (.dK kvs) ∧ ks = kvs.map (fun kv => kD kv.1) ∧ DvAll F (kvs.map (·.2)) ds
  | .ins C ns ds => ∃ a dx fs, v = .ref a ∧ H a = some (.ins C dx fs) ∧ ns = fs.map (·.1) ∧ DvAll F (fs.map (·.2)) ds
  | .dit t ks ds => ∃ a ep xs, v = .ref a ∧ H a = some (ditO t ep a xs) ∧ DvAll F (xs.map (·.2.1)) ks ∧ nkAll ks = some (xs.map (·.1)) ∧ DvAll F (xs.map (·.2.2)) ds
  | x => Dv F v x
section
variable {B : Bs} {F F' H H' : Hp} {al al' : Nat → Addr} {s s' : AS} {σ σ' : L2.St} {v : V} {x : D} {r : R} {c : Cell} {o : HO} {a p : Addr} {i n : Nat} {w : W}
theorem Tv.of (sm : Same F H) (h : Dv F v x) : Tv F H v x := by
  cases h with
  | non => exact .non
  | bl b => exact .bl b
  | int j => exact .int j
  | str z => exact .str z
  | lst e h => exact ⟨_, _, rfl, sm _ _ e, h⟩
  | tup e h => exact ⟨_, _, rfl, sm _ _ e, h⟩
  | dK e h => exact ⟨_, _, rfl, sm _ _ e, rfl, h⟩
  | ins e h => exact ⟨_, _, _, rfl, sm _ _ e, rfl, h⟩
  | dit e h1 n h2 => exact ⟨_, _, _, rfl, sm _ _ e, h1, n, h2⟩
theorem Tv.dv (sm : Same F H) (h : Tv F H v x) : Dv H v x := by
  cases x with
  | non => exact Dv.mono sm h
  | bl b => exact Dv.mono sm h
  | int j => exact Dv.mono sm h
  | str z => exact Dv.mono sm h
  | lst ds => obtain ⟨a, vs, rfl, e, h⟩ := h; exact .lst e (h.mono sm)
  | tup ds => obtain ⟨a, vs, rfl, e, h⟩ := h; exact .tup e (h.mono sm)
  | dic ks ds => obtain ⟨a, kvs, rfl, e, rfl, h⟩ := h; exact .dK e (h.mono sm)
  | ins C ns ds => obtain ⟨a, dx, fs, rfl, e, rfl, h⟩ := h; exact .ins e (h.mono sm)
  | dit t ks ds => obtain ⟨a, ep, xs, rfl, e, h1, n, h2⟩ := h; exact .dit e (h1.mono sm) n (h2.mono sm)
theorem dvAll_pairs : ∀ {kvs : List (Key × V)} {kds : List (Key × D)}, Paired (fun (p : Key × V) (q : Key × D) => p.1 = q.1 ∧ Dv F p.2 q.2) kvs kds → kds.map (fun kv => kD kv.1) = kvs.map (fun kv => kD kv.1) ∧ DvAll F (kvs.map (·.2)) (kds.map (·.2))
  | _, _, .nil => ⟨rfl, .nil⟩
  | _, _, .cons h t => by
    obtain ⟨h1, h2⟩ := dvAll_pairs t
    refine ⟨?_, .cons h.2 h2⟩
    rw [List.map_cons, List.map_cons, h1, h.1]
theorem CO.tv {L : Nat} (e : H a = some o) (h : CO F al L a o c) (hx : cellD c = some x) : Tv F H (.ref a) x := by
  cases h with
  | lst h => cases hx; exact ⟨_, _, rfl, e, h⟩
  | dic h => cases hx; obtain ⟨h1, h2⟩ := dvAll_pairs h; exact ⟨_, _, rfl, e, h1, h2⟩
  | ins h => cases hx
  | lsw h => cases hx
  | dit h1 n h2 => cases hx; exact ⟨_, _, _, rfl, e, h1, n, h2⟩
theorem Rel.peekW (X : Rel B F al s σ H) (h : WV F al s.st.length w v) (e : peekW s w = some x) : Tv F H v x := by
  cases w with
  | d d => cases e; exact Tv.of X.sm h
  | loc n =>
    obtain ⟨rfl, hn⟩ := h
    have e' : (match s.st[n]? with | some c => cellD c | none => none) = some x := e
    cases q : s.st[n]? with
    | none => rw [q] at e'; cases e'
    | some c =>
      rw [q] at e'
      obtain ⟨_, _, o, ho, hc⟩ := X.cl n c q
      exact hc.tv ho e'
  | raw u φ => cases e
  | tp us => cases e
theorem Rel.peek (X : Rel B F al s σ H) (h : RV F al s.st.length σ r v) (e : peek s r = some x) : Tv F H v x := by
  cases r with
  | w w => exact X.peekW h e
  | sl i =>
    have h : σ[i]? = some (some v) := h
    have e' : (match s.env[i]? with | some (.own c) => cellD c | some (.v w) => Zi.peekW s w | _ => none) = some x := e
    cases q : s.env[i]? with
    | none => rw [q] at e'; cases e'
    | some z =>
      rw [q] at e'
      cases z with
      | no => cases e'
      | v w =>
        obtain ⟨u, hu, hw⟩ := X.ev i w q
        rw [h] at hu; cases hu
        exact X.peekW hw e'
      | own c =>
        obtain ⟨a, ha, _, ⟨_, o, ho, hc⟩, _⟩ := X.eo i c q
        rw [h] at ha; cases ha
        exact hc.tv ho e'
/-! ### steps of a state -/
/-- the heap changes, nowhere at a cell -/
theorem Rel.heap (X : Rel B F al s σ H) (k : ∀ b u, H b = some u → (B.G b = some u ∨ F b = some u ∨ (∃ n, n < s.st.length ∧ al n = b) ∨ ∃ (i : Nat) (c : Cell), s.env[i]? = some (Sl.own c) ∧ σ[i]? = some (some (V.ref b))) → H' b = some u) : Rel B F al s σ H' where
  sm := fun b u e => k b u (X.sm b u e) (.inr (.inl e))
  sg := fun b u e => k b u (X.sg b u e) (.inl e)
  fg := X.fg
  ex := X.ex
  ss := X.ss
  cl := fun n c e => by
    obtain ⟨g, f, o, ho, hc⟩ := X.cl n c e
    exact ⟨g, f, o, k _ _ ho (.inr (.inr (.inl ⟨n, (List.getElem?_eq_some_iff.mp e).1, rfl⟩))), hc⟩
  le := X.le
  ev := X.ev
  eo := fun i c e => by
    obtain ⟨a, ha, g, ⟨f, o, ho, hc⟩, h1, h2⟩ := X.eo i c e
    exact ⟨a, ha, g, ⟨f, o, k _ _ ho (.inr (.inr (.inr ⟨i, c, e, ha⟩))), hc⟩, h1, h2⟩
theorem Rel.new (X : Rel B F al s σ H) (n : H p = none) : Rel B F al s σ (upd H p o) := X.heap fun b u e _ => by rw [upd_ne (ne_of_none e n)]; exact e
/-- p is no cell of ours -/
structure Apart (B : Bs) (F : Hp) (al : Nat → Addr) (s : AS) (σ : L2.St) (p : Addr) : Prop where
  g : B.G p = none
  f : F p = none
  a : ∀ n, n < s.st.length → al n ≠ p
  e : ∀ (i : Nat) (c : Cell), s.env[i]? = some (Sl.own c) → σ[i]? ≠ some (some (V.ref p))
theorem Rel.apart (X : Rel B F al s σ H) (n : H p = none) : Apart B F al s σ p where
  g := X.sg.free n
  f := X.sm.free n
  a := fun k hk e => by
    obtain ⟨_, _, o, ho, _⟩ := X.cl k _ (List.getElem?_eq_getElem hk)
    rw [e, n] at ho; cases ho
  e := fun i c hi e => by
    obtain ⟨a, ha, _, ⟨_, o, ho, _⟩, _⟩ := X.eo i c hi
    rw [e] at ha; cases ha
    rw [n] at ho; cases ho
theorem Ext.frz {L : Nat} (f : F p = none) : Ext F (upd F p o) al al L L := ⟨fun b u e => by rw [upd_ne (ne_of_none e f)]; exact e, Nat.le_refl _, fun _ _ => rfl⟩
/-- what is none of ours is frozen -/
theorem Rel.frz (X : Rel B F al s σ H) (A : Apart B F al s σ p) (h : H p = some o) : Rel B (upd F p o) al s σ H where
  sm := fun b u e => by
    by_cases q : b = p
    · subst q; rw [upd_same] at e; rw [← e]; exact h
    · rw [upd_ne q] at e; exact X.sm b u e
  sg := X.sg
  fg := fun b u e => by rw [upd_ne (ne_of_none e A.g)]; exact X.fg b u e
  ex := X.ex.trans (Ext.frz A.f)
  ss := X.ss
  cl := fun n c e => by
    obtain ⟨g, f, o', ho, hc⟩ := X.cl n c e
    exact ⟨g, by rw [upd_ne (A.a n (List.getElem?_eq_some_iff.mp e).1)]; exact f, o', ho, hc.ext (Ext.frz A.f)⟩
  le := X.le
  ev := fun i w e => by
    obtain ⟨v, h1, h2⟩ := X.ev i w e
    exact ⟨v, h1, h2.ext (Ext.frz A.f)⟩
  eo := fun i c e => by
    obtain ⟨a, ha, g, ⟨f, o', ho, hc⟩, h1, h2⟩ := X.eo i c e
    exact ⟨a, ha, g, ⟨by rw [upd_ne (fun z => A.e i c e (by rw [← z]; exact ha))]; exact f, o', ho, hc.ext (Ext.frz A.f)⟩, h1, h2⟩
/-- a slot is forgotten -/
theorem Rel.drop (X : Rel B F al s σ H) (i : Nat) : Rel B F al ⟨s.env.set i .no, s.st⟩ σ H where
  toRelS := X.toRelS
  le := by rw [List.length_set]; exact X.le
  ev := fun j w e => by
    by_cases q : i = j
    · subst q; rw [List.getElem?_set] at e; simp at e
    · rw [List.getElem?_set_ne q] at e; exact X.ev j w e
  eo := fun j c e => by
    by_cases q : i = j
    · subst q; rw [List.getElem?_set] at e; simp at e
    · rw [List.getElem?_set_ne q] at e
      obtain ⟨a, ha, g, hc, h1, h2⟩ := X.eo j c e
      refine ⟨a, ha, g, hc, h1, fun k c' ek => ?_⟩
      by_cases q : i = k
      · subst q; rw [List.getElem?_set] at ek; simp at ek
      · rw [List.getElem?_set_ne q] at ek; exact h2 k c' ek
theorem set_self {α : Type} {xs : List α} {i : Nat} {x y : α} (h : (xs.set i x)[i]? = some y) : i < xs.length ∧ x = y := by
  have := (List.getElem?_eq_some_iff.mp h).1
  rw [List.length_set] at this
  rw [List.getElem?_set_self this] at h
  exact ⟨this, Option.some.inj h⟩
/-- a slot takes a value -/
theorem Rel.setV (X : Rel B F al s σ H) (i : Nat) (h : WV F al s.st.length w v) : Rel B F al ⟨s.env.set i (.v w), s.st⟩ (σ.set i (some v)) H where
  toRelS := X.toRelS
  le := by rw [List.length_set, List.length_set]; exact X.le
  ev := fun j w' e => by
    by_cases q : i = j
    · subst q
      obtain ⟨hl, e⟩ := set_self e
      cases e
      exact ⟨v, List.getElem?_set_self (Nat.lt_of_lt_of_le hl X.le), h⟩
    · rw [List.getElem?_set_ne q] at e
      obtain ⟨u, h1, h2⟩ := X.ev j w' e
      exact ⟨u, by rw [List.getElem?_set_ne q]; exact h1, h2⟩
  eo := fun j c e => by
    by_cases q : i = j
    · subst q; obtain ⟨_, e⟩ := set_self e; cases e
    · rw [List.getElem?_set_ne q] at e
      obtain ⟨a, ha, g, hc, h1, h2⟩ := X.eo j c e
      refine ⟨a, by rw [List.getElem?_set_ne q]; exact ha, g, hc, h1, fun k c' ek hk => ?_⟩
      by_cases q' : i = k
      · subst q'; obtain ⟨_, ek⟩ := set_self ek; cases ek
      · rw [List.getElem?_set_ne q'] at ek hk; exact h2 k c' ek hk
/-- a slot takes a new container -/
theorem Rel.setN (X : Rel B F al s σ H) (i : Nat) (A : Apart B F al s σ p) (h : CAt F al s.st.length H p c) : Rel B F al ⟨s.env.set i (.own c), s.st⟩ (σ.set i (some (.ref p))) H where
  toRelS := X.toRelS
  le := by rw [List.length_set, List.length_set]; exact X.le
  ev := fun j w' e => by
    by_cases q : i = j
    · subst q; obtain ⟨_, e⟩ := set_self e; cases e
    · rw [List.getElem?_set_ne q] at e
      obtain ⟨u, h1, h2⟩ := X.ev j w' e
      exact ⟨u, by rw [List.getElem?_set_ne q]; exact h1, h2⟩
  eo := fun j c' e => by
    by_cases q : i = j
    · subst q
      obtain ⟨hl, e⟩ := set_self e
      cases e
      refine ⟨p, List.getElem?_set_self (Nat.lt_of_lt_of_le hl X.le), A.g, h, A.a, fun k c' ek hk => ?_⟩
      by_cases q' : i = k
      · exact q'.symm
      · rw [List.getElem?_set_ne q'] at ek hk; exact (A.e k c' ek hk).elim
    · rw [List.getElem?_set_ne q] at e
      obtain ⟨a, ha, g, hc, h1, h2⟩ := X.eo j c' e
      refine ⟨a, by rw [List.getElem?_set_ne q]; exact ha, g, hc, h1, fun k c'' ek hk => ?_⟩
      by_cases q' : i = k
      · subst q'
        obtain ⟨hl, _⟩ := set_self ek
        rw [List.getElem?_set_self (Nat.lt_of_lt_of_le hl X.le)] at hk
        cases hk
        exact (A.e j c' e ha).elim
      · rw [List.getElem?_set_ne q'] at ek hk; exact h2 k c'' ek hk
/-- a slot's container is changed -/
theorem Rel.putO {c' : Cell} {o' : HO} (X : Rel B F al s σ H) (e : s.env[i]? = some (Sl.own c)) (ha : σ[i]? = some (some (V.ref a))) (h : CO F al s.st.length a o' c') : Rel B F al ⟨s.env.set i (.own c'), s.st⟩ σ (upd H a o') := by
  obtain ⟨b, hb, g, ⟨f, o, ho, hc⟩, h1, h2⟩ := X.eo i c e
  rw [ha] at hb; cases hb
  have hi : i < s.env.length := (List.getElem?_eq_some_iff.mp e).1
  refine ⟨⟨fun b u q => ?_, fun b u q => ?_, X.fg, X.ex, X.ss, fun n c'' q => ?_⟩, by rw [List.length_set]; exact X.le, fun j w q => ?_, fun j c'' q => ?_⟩
  · rw [upd_ne (ne_of_none q f)]; exact X.sm b u q
  · rw [upd_ne (ne_of_none q g)]; exact X.sg b u q
  · obtain ⟨g', f', o'', ho', hc'⟩ := X.cl n c'' q
    exact ⟨g', f', o'', by rw [upd_ne (h1 n (List.getElem?_eq_some_iff.mp q).1)]; exact ho', hc'⟩
  · by_cases z : i = j
    · subst z; obtain ⟨_, q⟩ := set_self q; cases q
    · rw [List.getElem?_set_ne z] at q; exact X.ev j w q
  · by_cases z : i = j
    · subst z
      obtain ⟨_, q⟩ := set_self q
      cases q
      refine ⟨a, ha, g, ⟨f, o', upd_same, h⟩, h1, fun k c'' ek hk => ?_⟩
      by_cases z' : i = k
      · exact z'.symm
      · rw [List.getElem?_set_ne z'] at ek; exact h2 k c'' ek hk
    · rw [List.getElem?_set_ne z] at q
      obtain ⟨a', ha', g', ⟨f', o'', ho', hc'⟩, h1', h2'⟩ := X.eo j c'' q
      have ne : a' ≠ a := fun y => z (h2' i c e (by rw [y]; exact ha))
      refine ⟨a', ha', g', ⟨f', o'', by rw [upd_ne ne]; exact ho', hc'⟩, h1', fun k c3 ek hk => ?_⟩
      by_cases z' : i = k
      · subst z'
        rw [ha] at hk; cases hk
        exact (ne rfl).elim
      · rw [List.getElem?_set_ne z'] at ek; exact h2' k c3 ek hk
/-- a cell of the store is changed -/
theorem Rel.putS {c' : Cell} {o' : HO} (X : Rel B F al s σ H) (e : s.st[n]? = some c) (h : CO F al s.st.length (al n) o' c') : Rel B F al ⟨s.env, s.st.set n c'⟩ σ (upd H (al n) o') := by
  obtain ⟨g, f, o, ho, hc⟩ := X.cl n c e
  have hn : n < s.st.length := (List.getElem?_eq_some_iff.mp e).1
  have hL : (s.st.set n c').length = s.st.length := List.length_set
  refine ⟨⟨fun b u q => ?_, fun b u q => ?_, X.fg, ?_, ?_, fun m c'' q => ?_⟩, X.le, fun j w q => ?_, fun j c'' q => ?_⟩
  · rw [upd_ne (ne_of_none q f)]; exact X.sm b u q
  · rw [upd_ne (ne_of_none q g)]; exact X.sg b u q
  · show Ext _ _ _ _ _ (s.st.set n c').length
    rw [hL]; exact X.ex
  · show ∀ n' m : Nat, n' < (s.st.set n c').length → m < (s.st.set n c').length → _
    rw [hL]; exact X.ss
  · show _ ∧ CAt F al (s.st.set n c').length _ _ _
    rw [hL]
    by_cases z : n = m
    · subst z
      obtain ⟨_, q⟩ := set_self q
      cases q
      exact ⟨g, f, o', upd_same, h⟩
    · have q : (s.st.set n c')[m]? = some c'' := q
      rw [List.getElem?_set_ne z] at q
      obtain ⟨g', f', o'', ho', hc'⟩ := X.cl m c'' q
      exact ⟨g', f', o'', by rw [upd_ne (fun y => z (X.ss m n (List.getElem?_eq_some_iff.mp q).1 hn y).symm)]; exact ho', hc'⟩
  · show ∃ v, _ ∧ WV F al (s.st.set n c').length w v
    rw [hL]; exact X.ev j w q
  · obtain ⟨a', ha', g', ⟨f', o'', ho', hc'⟩, h1', h2'⟩ := X.eo j c'' q
    have hh : ∀ k, k < (s.st.set n c').length → al k ≠ a' := by rw [hL]; exact h1'
    refine ⟨a', ha', g', ?_, hh, h2'⟩
    show CAt F al (s.st.set n c').length _ _ _
    rw [hL]
    exact ⟨f', o'', by rw [upd_ne (fun y => h1' n hn y.symm)]; exact ho', hc'⟩
/-- the store grows by a new container -/
theorem Rel.push (X : Rel B F al s σ H) (A : Apart B F al s σ p) (h : CAt F al s.st.length H p c) :
    ∃ al', Ext F F al al' s.st.length (s.st ++ [c]).length ∧ al' s.st.length = p ∧ Rel B F al' ⟨s.env, s.st ++ [c]⟩ σ H := by
  have hx : Ext F F al (fun n => if n = s.st.length then p else al n) s.st.length (s.st ++ [c]).length :=
    ⟨fun _ _ e => e, by rw [List.length_append]; omega, fun n hn => if_neg (Nat.ne_of_lt hn)⟩
  refine ⟨_, hx, if_pos rfl, ⟨X.sm, X.sg, X.fg, X.ex.trans hx, fun n m hn hm e => ?_, fun n c' e => ?_⟩, X.le, fun j w e => ?_, fun j c' e => ?_⟩
  · have hn : n < (s.st ++ [c]).length := hn
    have hm : m < (s.st ++ [c]).length := hm
    rw [List.length_append, List.length_singleton] at hn hm
    have e : (if n = s.st.length then p else al n) = if m = s.st.length then p else al m := e
    by_cases hn' : n = s.st.length
    · by_cases hm' : m = s.st.length
      · rw [hn', hm']
      · rw [if_pos hn', if_neg hm'] at e
        exact (A.a m (by omega) e.symm).elim
    · by_cases hm' : m = s.st.length
      · rw [if_neg hn', if_pos hm'] at e
        exact (A.a n (by omega) e).elim
      · rw [if_neg hn', if_neg hm'] at e
        exact X.ss n m (by omega) (by omega) e
  · have e : (s.st ++ [c])[n]? = some c' := e
    by_cases hn : n < s.st.length
    · rw [List.getElem?_append_left hn] at e
      obtain ⟨g, f, o, ho, hc⟩ := X.cl n c' e
      have q : (if n = s.st.length then p else al n) = al n := if_neg (Nat.ne_of_lt hn)
      exact ⟨by show B.G (if _ then _ else _) = none; rw [q]; exact g, by show F (if _ then _ else _) = none; rw [q]; exact f, o, by show H (if _ then _ else _) = _; rw [q]; exact ho, by show CO _ _ _ (if _ then _ else _) _ _; rw [q]; exact hc.ext hx⟩
    · have hl := (List.getElem?_eq_some_iff.mp e).1
      rw [List.length_append, List.length_singleton] at hl
      have hn : n = s.st.length := by omega
      subst hn
      rw [List.getElem?_append_right (Nat.le_refl _), Nat.sub_self] at e
      cases e
      obtain ⟨f, o, ho, hc⟩ := h
      have q : (if s.st.length = s.st.length then p else al s.st.length) = p := if_pos rfl
      exact ⟨by show B.G (if _ then _ else _) = none; rw [q]; exact A.g, by show F (if _ then _ else _) = none; rw [q]; exact f, o, by show H (if _ then _ else _) = _; rw [q]; exact ho, by show CO _ _ _ (if _ then _ else _) _ _; rw [q]; exact hc.ext hx⟩
  · obtain ⟨v, h1, h2⟩ := X.ev j w e
    exact ⟨v, h1, h2.ext hx⟩
  · obtain ⟨a, ha, g, ⟨f, o, ho, hc⟩, h1, h2⟩ := X.eo j c' e
    refine ⟨a, ha, g, ⟨f, o, ho, hc.ext hx⟩, fun n hn q => ?_, h2⟩
    have hn : n < (s.st ++ [c]).length := hn
    rw [List.length_append, List.length_singleton] at hn
    have q : (if n = s.st.length then p else al n) = a := q
    by_cases hn' : n = s.st.length
    · rw [if_pos hn'] at q
      exact A.e j c' e (by rw [q]; exact ha)
    · rw [if_neg hn'] at q
      exact h1 n (by omega) q
/-- a slot's container leaves its slot -/
theorem Rel.move (X : Rel B F al s σ H) (e : s.env[i]? = some (Sl.own c)) : ∃ a, σ[i]? = some (some (V.ref a)) ∧ CAt F al s.st.length H a c ∧ Rel B F al ⟨s.env.set i .no, s.st⟩ σ H ∧ Apart B F al ⟨s.env.set i .no, s.st⟩ σ a := by
  obtain ⟨a, ha, g, hc, h1, h2⟩ := X.eo i c e
  refine ⟨a, ha, hc, X.drop i, g, hc.f, h1, fun j c' ej hj => ?_⟩
  by_cases z : i = j
  · subst z; rw [List.getElem?_set] at ej; simp at ej
  · have ej : (s.env.set i .no)[j]? = some (Sl.own c') := ej
    rw [List.getElem?_set_ne z] at ej
    exact z (h2 j c' ej hj).symm
end
end Zi

set_option Elab.async false
set_option linter.all false
set_option maxRecDepth 100000
set_option maxHeartbeats 1000000
/-! Zj: the constructs' transformers, each sound. -/
namespace Zi
open PySem PySem.Spec PyProof.Rows L2 Ly
variable [Zi.Wd]
section
variable {Z : EX} {K : PySem.W.Frag} {B : Bs} {F F' H H' : Hp} {al al' : Nat → Addr} {s s' : AS} {σ σ' : L2.St} {v : V} {x : D} {r : R} {c : Cell} {o : HO} {a p : Addr} {i n : Nat} {w : W}
theorem set_same {α : Type} : ∀ {xs : List α} {i : Nat} {x : α}, xs[i]? = some x → xs.set i x = xs
  | [], _, _, h => by simp at h
  | y :: ys, 0, x, h => by simp at h; subst h; rfl
  | y :: ys, i + 1, x, h => by
    rw [List.set_cons_succ, set_same (by simpa using h)]
/-! ### from results to values -/
/-- what is stored or handed on: a slot's container is frozen -/
def toW (r : R) (s : AS) (k : W → AS → Prop) : Prop := match r with
  | .w w => k w s
  | .sl i => match s.env[i]? with
    | some (.v w) => k w s
    | some (.own c) => match cellD c with
      | some x => k (.d x) ⟨s.env.set i (.v (.d x)), s.st⟩
      | none => k (.loc s.st.length) ⟨s.env.set i (.v (.loc s.st.length)), s.st ++ [c]⟩
    | _ => False
/-- what is handed on to be changed: a slot's container goes to the store -/
def toL (r : R) (s : AS) (k : W → AS → Prop) : Prop := match r with
  | .w w => k w s
  | .sl i => match s.env[i]? with
    | some (.v w) => k w s
    | some (.own c) => k (.loc s.st.length) ⟨s.env.set i (.v (.loc s.st.length)), s.st ++ [c]⟩
    | _ => False
def nToW (n : N) (s : AS) (k : W → AS → Prop) : Prop := match n with
  | .w w => k w s
  | .new c => match cellD c with
    | some x => k (.d x) s
    | none => k (.loc s.st.length) ⟨s.env, s.st ++ [c]⟩
theorem CO.dv {L : Nat} (e : F a = some o) (h : CO F al L a o c) (hx : cellD c = some x) : Dv F (.ref a) x := (h.tv (H := F) e hx).dv fun _ _ e => e
theorem Rel.frzD (X : Rel B F al s σ H) (A : Apart B F al s σ p) (C : CAt F al s.st.length H p c) (hx : cellD c = some x) : ∃ F', Ext F F' al al s.st.length s.st.length ∧ Rel B F' al s σ H ∧ Dv F' (.ref p) x := by
  obtain ⟨f, o, ho, hc⟩ := C
  exact ⟨_, Ext.frz f, X.frz A ho, (hc.ext (Ext.frz f)).dv upd_same hx⟩
theorem Rel.setSame (X : Rel B F al s σ H) (e : σ[i]? = some (some v)) (h : WV F al s.st.length w v) : Rel B F al ⟨s.env.set i (.v w), s.st⟩ σ H := by
  have := X.setV i h
  rw [set_same e] at this
  exact this
theorem Rel.lift (X : Rel B F al s σ H) (e : s.env[i]? = some (Sl.own c)) : ∃ al' a, Ext F F al al' s.st.length (s.st ++ [c]).length ∧ σ[i]? = some (some (V.ref a)) ∧ al' s.st.length = a ∧ Rel B F al' ⟨s.env.set i (.v (.loc s.st.length)), s.st ++ [c]⟩ σ H := by
  obtain ⟨a, ha, C, X1, A⟩ := X.move e
  obtain ⟨al', x, ea, X2⟩ := X1.push A C
  refine ⟨al', a, x, ha, ea, ?_⟩
  have := X2.setSame (i := i) (v := .ref a) (w := .loc s.st.length) ha ⟨by rw [ea], by show _ < (s.st ++ [c]).length; rw [List.length_append]; simp⟩
  rwa [show ((⟨s.env.set i .no, s.st ++ [c]⟩ : AS).env.set i (.v (.loc s.st.length))) = s.env.set i (.v (.loc s.st.length)) from List.set_set ..] at this
theorem toW_ok {k : W → AS → Prop} (X : Rel B F al s σ H) (h : RV F al s.st.length σ r v) (e : toW r s k) :
    ∃ F' al' w s', Ext F F' al al' s.st.length s'.st.length ∧ Rel B F' al' s' σ H ∧ WV F' al' s'.st.length w v ∧ k w s' := by
  cases r with
  | w w => exact ⟨F, al, w, s, Ext.refl, X, h, e⟩
  | sl i =>
    have h : σ[i]? = some (some v) := h
    unfold toW at e
    simp only at e
    cases q : s.env[i]? with
    | none => rw [q] at e; exact e.elim
    | some z =>
      rw [q] at e
      cases z with
      | no => exact e.elim
      | v w =>
        obtain ⟨u, hu, hw⟩ := X.ev i w q
        rw [h] at hu; cases hu
        exact ⟨F, al, w, s, Ext.refl, X, hw, e⟩
      | own c =>
        simp only at e
        cases z : cellD c with
        | some x =>
          rw [z] at e
          obtain ⟨a, ha, C, X1, A⟩ := X.move q
          rw [h] at ha; cases ha
          obtain ⟨F', x', X2, d⟩ := X1.frzD A C z
          have X3 := X2.setSame (i := i) (v := .ref a) (w := .d x) h d
          rw [show ((⟨s.env.set i .no, s.st⟩ : AS).env.set i (.v (.d x))) = s.env.set i (.v (.d x)) from List.set_set ..] at X3
          exact ⟨F', al, .d x, ⟨s.env.set i (.v (.d x)), s.st⟩, x', X3, d, e⟩
        | none =>
          rw [z] at e
          obtain ⟨al', a, x, ha, ea, X1⟩ := X.lift q
          rw [h] at ha; cases ha
          exact ⟨F, al', .loc s.st.length, _, x, X1, ⟨by rw [ea], by show _ < (s.st ++ [c]).length; rw [List.length_append]; simp⟩, e⟩
theorem toL_ok {k : W → AS → Prop} (X : Rel B F al s σ H) (h : RV F al s.st.length σ r v) (e : toL r s k) :
    ∃ F' al' w s', Ext F F' al al' s.st.length s'.st.length ∧ Rel B F' al' s' σ H ∧ WV F' al' s'.st.length w v ∧ k w s' := by
  cases r with
  | w w => exact ⟨F, al, w, s, Ext.refl, X, h, e⟩
  | sl i =>
    have h : σ[i]? = some (some v) := h
    unfold toL at e
    simp only at e
    cases q : s.env[i]? with
    | none => rw [q] at e; exact e.elim
    | some z =>
      rw [q] at e
      cases z with
      | no => exact e.elim
      | v w =>
        obtain ⟨u, hu, hw⟩ := X.ev i w q
        rw [h] at hu; cases hu
        exact ⟨F, al, w, s, Ext.refl, X, hw, e⟩
      | own c =>
        obtain ⟨al', a, x, ha, ea, X1⟩ := X.lift q
        rw [h] at ha; cases ha
        exact ⟨F, al', .loc s.st.length, _, x, X1, ⟨by rw [ea], by show _ < (s.st ++ [c]).length; rw [List.length_append]; simp⟩, e⟩
theorem NVe.apart {c : Cell} (h : NVe B F al s σ H (.new c) v) : ∃ p, v = .ref p ∧ Apart B F al s σ p ∧ CAt F al s.st.length H p c := by
  obtain ⟨⟨p, rfl, g, C, a⟩, e⟩ := h
  exact ⟨p, rfl, ⟨g, C.f, a, e c rfl⟩, C⟩
theorem Apart.nve {c : Cell} (A : Apart B F al s σ p) (C : CAt F al s.st.length H p c) : NVe B F al s σ H (.new c) (.ref p) := ⟨⟨p, rfl, A.g, C, A.a⟩, fun _ _ => A.e⟩
theorem NVe.val {w : W} (h : WV F al s.st.length w v) : NVe B F al s σ H (.w w) v := ⟨h, fun c z => by cases z⟩
theorem nToW_ok {k : W → AS → Prop} {n : N} (X : Rel B F al s σ H) (h : NVe B F al s σ H n v) (e : nToW n s k) :
    ∃ F' al' w s', Ext F F' al al' s.st.length s'.st.length ∧ Rel B F' al' s' σ H ∧ WV F' al' s'.st.length w v ∧ k w s' := by
  cases n with
  | w w => exact ⟨F, al, w, s, Ext.refl, X, h.1, e⟩
  | new c =>
    obtain ⟨p, rfl, A, C⟩ := h.apart
    unfold nToW at e
    simp only at e
    cases z : cellD c with
    | some x =>
      rw [z] at e
      obtain ⟨F', x', X2, d⟩ := X.frzD A C z
      exact ⟨F', al, .d x, s, x', X2, d, e⟩
    | none =>
      rw [z] at e
      obtain ⟨al', x, ea, X2⟩ := X.push A C
      exact ⟨F, al', .loc s.st.length, _, x, X2, ⟨by rw [ea], by show _ < (s.st ++ [c]).length; rw [List.length_append]; simp⟩, e⟩
/-- the new containers' expressions as any -/
def aFz (an : AN) : AE := fun s A => an s fun n s' => nToW n s' fun w s2 => A (.w w) s2
theorem RE.fz {te : TE} {an : AN} (h : RN Z te an) : RE Z te (aFz an) := fun B hB F al s σ H Q A X e q =>
  h B hB F al s σ H Q _ X e fun n s1 F1 al1 H1 v x1 X1 nv e1 => by
    obtain ⟨F2, al2, w, s2, x2, X2, wv, e2⟩ := nToW_ok X1 nv e1
    exact q (.w w) s2 F2 al2 H1 v (x1.trans x2) X2 wv e2
def aN (ae : AE) : AN := fun s A => ae s fun r s1 => toW r s1 fun w s2 => A (.w w) s2
theorem RN.of {te : TE} {ae : AE} (h : RE Z te ae) : RN Z te (aN ae) := fun B hB F al s σ H Q A X e q =>
  h B hB F al s σ H Q _ X e fun r s1 F1 al1 H1 v x1 X1 rv e1 => by
    obtain ⟨F2, al2, w, s2, x2, X2, wv, e2⟩ := toW_ok X1 rv e1
    exact q (.w w) s2 F2 al2 H1 v (x1.trans x2) X2 (NVe.val wv) e2
/-- a slot whose container is handed back -/
def aMove (i : Nat) : AN := fun s A => match s.env[i]? with
  | some (.v w) => A (.w w) s
  | some (.own c) => A (.new c) ⟨s.env.set i .no, s.st⟩
  | _ => False
theorem RN.move {i : Nat} : RN Z (tVar i) (aMove i) := fun B hB F al s σ H Q A X e q => by
  unfold aMove at e
  cases z : s.env[i]? with
  | none => rw [z] at e; exact e.elim
  | some y =>
    rw [z] at e
    cases y with
    | no => exact e.elim
    | v w =>
      obtain ⟨u, hu, hw⟩ := X.ev i w z
      exact ⟨u, hu, q (.w w) s F al H u Ext.refl X (NVe.val hw) e⟩
    | own c =>
      obtain ⟨a, ha, C, X1, A1⟩ := X.move z
      exact ⟨_, ha, q (.new c) ⟨s.env.set i .no, s.st⟩ F al H _ Ext.refl X1 (A1.nve C) e⟩
/-! ### names, constants, operators -/
def aVar (i : Nat) : AE := fun s A => match s.env[i]? with
  | some (.v w) => A (.w w) s
  | some (.own _) => A (.sl i) s
  | _ => False
theorem RE.var {i : Nat} : RE Z (tVar i) (aVar i) := fun B hB F al s σ H Q A X e q => by
  unfold aVar at e
  cases z : s.env[i]? with
  | none => rw [z] at e; exact e.elim
  | some y =>
    rw [z] at e
    cases y with
    | no => exact e.elim
    | v w =>
      obtain ⟨u, hu, hw⟩ := X.ev i w z
      exact ⟨u, hu, q (.w w) s F al H u Ext.refl X hw e⟩
    | own c =>
      obtain ⟨a, ha, _⟩ := X.eo i c z
      exact ⟨_, ha, q (.sl i) s F al H _ Ext.refl X ha e⟩
def aC (x : D) : AE := fun s A => A (.w (.d x)) s
theorem RE.cst {x : D} {v : V} (h : ∀ F, Dv F v x) : RE Z (tC v) (aC x) := fun B hB F al s σ H Q A X e q => q (.w (.d x)) s F al H v Ext.refl X (h F) e
theorem RE.int {i : Int} : RE Z (tC (.int i)) (aC (.int i)) := RE.cst fun _ => .int i
theorem RE.str {i : Str} : RE Z (tC (.str i)) (aC (.str i)) := RE.cst fun _ => .str i
theorem RE.bl {i : Bool} : RE Z (tC (.bl i)) (aC (.bl i)) := RE.cst fun _ => .bl i
theorem RE.non : RE Z (tC .non) (aC .non) := RE.cst fun _ => .non
def aRaw (v : V) : AE := fun s A => A (.w (.raw v fun _ => True)) s
theorem RE.raw {v : V} : RE Z (tC v) (aRaw v) := fun B hB F al s σ H Q A X e q => q (.w (.raw v fun _ => True)) s F al H v Ext.refl X ⟨rfl, trivial, fun _ _ _ _ => trivial⟩ e
def pk (s : AS) (r : R) (k : D → Prop) : Prop := match peek s r with
  | some d => k d
  | none => False
theorem pk_ok {k : D → Prop} (h : pk s r k) : ∃ d, peek s r = some d ∧ k d := by
  unfold pk at h
  cases z : peek s r with
  | none => rw [z] at h; exact h.elim
  | some d => rw [z] at h; exact ⟨d, rfl, h⟩
abbrev O2 := D → D → (D → Prop) → Prop
def OR2 (r : R2) (o : O2) : Prop := ∀ (F H : Hp) (x y : V) (d e : D) (Q : VK) (A : D → Prop), Same F H → Tv F H x d → Tv F H y e → o d e A → (∀ z v, Dv F v z → A z → Q v H) → r x y H Q
def aOp (o : O2) (a b : AE) : AE := fun s A => a s fun r s1 => b s1 fun r' s2 => pk s2 r fun d => pk s2 r' fun e => o d e fun z => A (.w (.d z)) s2
theorem RE.op {r : R2} {o : O2} {ta tb : TE} {a b : AE} (hr : OR2 r o) (ha : RE Z ta a) (hb : RE Z tb b) : RE Z (tOp r ta tb) (aOp o a b) := fun B hB F al s σ H Q A X h q =>
  ha B hB F al s σ H _ _ X h fun r1 s1 F1 al1 H1 v1 x1 X1 rv1 h1 => hb B hB F1 al1 s1 σ H1 _ _ X1 h1 fun r2 s2 F2 al2 H2 v2 x2 X2 rv2 h2 => by
    obtain ⟨d, e1, h2⟩ := pk_ok h2
    obtain ⟨e, e2, h2⟩ := pk_ok h2
    exact hr F2 H2 v1 v2 d e Q _ X2.sm (X2.peek (rv1.ext x2) e1) (X2.peek rv2 e2) h2 fun z v dz hz => q (.w (.d z)) s2 F2 al2 H2 v (x1.trans x2) X2 dz hz
abbrev O2L := D → D → (List D → Prop) → Prop
def OR2L (r : R2) (o : O2L) : Prop := ∀ (F H : Hp) (x y : V) (d e : D) (Q : VK) (A : List D → Prop), Same F H → Tv F H x d → Tv F H y e → o d e A → (∀ zs p vs, H p = none → DvAll F vs zs → A zs → Q (.ref p) (upd H p (.lst vs))) → r x y H Q
theorem Rel.newL {vs : List V} {zs : List D} (X : Rel B F al s σ H) (n : H p = none) (h : DvAll F vs zs) : Rel B F al s σ (upd H p (.lst vs)) ∧ NVe B F al s σ (upd H p (.lst vs)) (.new (.lst zs)) (.ref p) :=
  ⟨X.new n, (X.apart n).nve ⟨X.sm.free n, _, upd_same, .lst h⟩⟩
def aOpL (o : O2L) (a b : AE) : AN := fun s A => a s fun r s1 => b s1 fun r' s2 => pk s2 r fun d => pk s2 r' fun e => o d e fun zs => A (.new (.lst zs)) s2
theorem RN.op {r : R2} {o : O2L} {ta tb : TE} {a b : AE} (hr : OR2L r o) (ha : RE Z ta a) (hb : RE Z tb b) : RN Z (tOp r ta tb) (aOpL o a b) := fun B hB F al s σ H Q A X h q =>
  ha B hB F al s σ H _ _ X h fun r1 s1 F1 al1 H1 v1 x1 X1 rv1 h1 => hb B hB F1 al1 s1 σ H1 _ _ X1 h1 fun r2 s2 F2 al2 H2 v2 x2 X2 rv2 h2 => by
    obtain ⟨d, e1, h2⟩ := pk_ok h2
    obtain ⟨e, e2, h2⟩ := pk_ok h2
    exact hr F2 H2 v1 v2 d e Q _ X2.sm (X2.peek (rv1.ext x2) e1) (X2.peek rv2 e2) h2 fun zs p vs n dz hz => q _ s2 F2 al2 _ _ (x1.trans x2) (X2.newL n dz).1 (X2.newL n dz).2 hz
def oI (g : Int → Int → D) : O2 := fun d e A => match d, e with
  | .int i, .int j => A (g i j)
  | _, _ => False
theorem Tv.intE {i : Int} (h : Tv F H v (.int i)) : v = .int i := Dv.intE h
theorem Tv.strE {i : Str} (h : Tv F H v (.str i)) : v = .str i := Dv.strE h
theorem Tv.blE {i : Bool} (h : Tv F H v (.bl i)) : v = .bl i := Dv.blE h
theorem oI_ok {g : Int → Int → V} {g' : Int → Int → D} (hg : ∀ F i j, Dv F (g i j) (g' i j)) : OR2 (rI0 g) (oI g') := fun F H x y d e Q A sm hx hy h q => by
  cases d <;> cases e <;> first | exact h.elim | skip
  exact ⟨_, _, hx.intE, hy.intE, q _ _ (hg _ _ _) h⟩
def oIc (C : Int → Int → Prop) (g : Int → Int → D) : O2 := fun d e A => match d, e with
  | .int i, .int j => C i j ∧ A (g i j)
  | _, _ => False
theorem oIc_ok {C : Int → Int → Prop} {g : Int → Int → V} {g' : Int → Int → D} (hg : ∀ F i j, Dv F (g i j) (g' i j)) : OR2 (rI C g) (oIc C g') := fun F H x y d e Q A sm hx hy h q => by
  cases d <;> cases e <;> first | exact h.elim | skip
  exact ⟨_, _, hx.intE, hy.intE, h.1, q _ _ (hg _ _ _) h.2⟩
/-- == -/
def eqD (d e : D) : Bool := PyData.eqv (py d) (py e)
def okD (d : D) : Bool := (py d).plain && decide ((py d).depth ≤ 60)
def oEq : O2 := fun d e A => okD d = true ∧ okD e = true ∧ A (.bl (eqD d e))
def oNe : O2 := fun d e A => okD d = true ∧ okD e = true ∧ A (.bl (!eqD d e))
theorem okD_E {d : D} (h : okD d = true) : (py d).plain = true ∧ (py d).depth ≤ 60 := by
  unfold okD at h
  rw [Bool.and_eq_true] at h
  exact ⟨h.1, of_decide_eq_true h.2⟩
theorem oEq_ok : OR2 rEqQ oEq := fun F H x y d e Q A sm hx hy h q =>
  ⟨py d, py e, (hx.dv sm).dq (okD_E h.1).1, (hy.dv sm).dq (okD_E h.2.1).1, (okD_E h.1).1, (okD_E h.2.1).1, (okD_E h.1).2, q _ _ (.bl _) h.2.2⟩
theorem oNe_ok : OR2 rNeQ oNe := fun F H x y d e Q A sm hx hy h q =>
  ⟨py d, py e, (hx.dv sm).dq (okD_E h.1).1, (hy.dv sm).dq (okD_E h.2.1).1, (okD_E h.1).1, (okD_E h.2.1).1, (okD_E h.1).2, q _ _ (.bl _) h.2.2⟩
/-- in, not in a list or tuple -/
def inD (d : D) (ds : List D) : Bool := ds.any fun z => eqD z d
def oIn (neg : Bool) : O2 := fun d e A => match e with
  | .lst ds => okD d = true ∧ ds.all okD = true ∧ A (.bl (if neg then !inD d ds else inD d ds))
  | .tup ds => okD d = true ∧ ds.all okD = true ∧ A (.bl (if neg then !inD d ds else inD d ds))
  | _ => False
theorem plainAll_of : ∀ {ds : List D}, ds.all okD = true → PyData.plainAll (pyAll ds) = true
  | [], _ => rfl
  | d :: ds, h => by
    rw [List.all_cons, Bool.and_eq_true] at h
    rw [pyAll, PyData.plainAll, (okD_E h.1).1, plainAll_of h.2]; rfl
theorem any_py (d : D) : ∀ ds : List D, ((pyAll ds).any fun z => PyData.eqv z (py d)) = inD d ds
  | [] => rfl
  | e :: ds => by
    have := any_py d ds
    unfold inD at this ⊢
    rw [pyAll, List.any_cons, List.any_cons, this]; rfl
theorem oIn_ok {neg : Bool} : OR2 (rInQ neg) (oIn neg) := fun F H x y d e Q A sm hx hy h q => by
  cases e <;> first | exact h.elim | skip
  · rename_i ds
    obtain ⟨h1, h2, h3⟩ := h
    have pl := plainAll_of h2
    refine ⟨py d, pyAll ds, (hx.dv sm).dq (okD_E h1).1, .inl ?_, (okD_E h1).1, pl, (okD_E h1).2, ?_⟩
    · exact (hy.dv sm).dq (show (PyData.list (pyAll ds)).plain = true by simpa only [PyData.plain] using pl)
    · rw [any_py]; exact q _ _ (.bl _) h3
  · rename_i ds
    obtain ⟨h1, h2, h3⟩ := h
    have pl := plainAll_of h2
    refine ⟨py d, pyAll ds, (hx.dv sm).dq (okD_E h1).1, .inr ?_, (okD_E h1).1, pl, (okD_E h1).2, ?_⟩
    · exact (hy.dv sm).dq (show (PyData.tuple (pyAll ds)).plain = true by simpa only [PyData.plain] using pl)
    · rw [any_py]; exact q _ _ (.bl _) h3
/-- an item -/
theorem DvAll.atI {vs : List V} {ds : List D} {i : Int} {d : D} (h : DvAll F vs ds) (e : atI ds i = some d) : ∃ v, L2.atI vs i = some v ∧ Dv F v d := by
  unfold L2.atI at e ⊢
  rw [h.length]
  cases z : ixN ds.length i with
  | none => rw [z] at e; cases e
  | some j =>
    rw [z] at e
    obtain ⟨v, h1, h2⟩ := h.get (show ds[j]? = some d from e)
    exact ⟨v, h1, h2⟩
def oIx : O2 := fun d e A => match d, e with
  | .lst ds, .int i => match atI ds i with
    | some z => A z
    | none => False
  | .tup ds, .int i => match atI ds i with
    | some z => A z
    | none => False
  | .str x, .int i => x.length ≤ sizeLine ∧ match atI x.cps.toList i with
    | some c => A (.str ⟨#[c]⟩)
    | none => False
  | _, _ => False
theorem oIx_ok : OR2 (rIx K) oIx := fun F H x y d e Q A sm hx hy h q => by
  cases d <;> cases e <;> first | exact h.elim | skip
  · rename_i z i
    obtain ⟨h1, h⟩ := h
    cases e : atI z.cps.toList i with
    | none => rw [e] at h; exact h.elim
    | some c => rw [e] at h; exact .inr (.inr ⟨z, i, c, hx.strE, hy.intE, h1, e, q _ _ (.str _) h⟩)
  · rename_i ds i
    have h : (match atI ds i with | some z => A z | none => False) := h
    obtain ⟨a, vs, rfl, ea, dv⟩ := hx
    cases e : atI ds i with
    | none => rw [e] at h; exact h.elim
    | some d =>
      rw [e] at h
      obtain ⟨v, h1, h2⟩ := dv.atI e
      exact .inl ⟨a, vs, i, v, rfl, hy.intE, SqL.of ea, h1, q _ _ h2 h⟩
  · rename_i ds i
    have h : (match atI ds i with | some z => A z | none => False) := h
    obtain ⟨a, vs, rfl, ea, dv⟩ := hx
    cases e : atI ds i with
    | none => rw [e] at h; exact h.elim
    | some d =>
      rw [e] at h
      obtain ⟨v, h1, h2⟩ := dv.atI e
      exact .inr (.inl ⟨a, vs, i, v, rfl, hy.intE, SqT.of ea, h1, q _ _ h2 h⟩)
/-- list + list, list * int -/
def oCat : O2L := fun d e A => match d, e with
  | .lst ds, .lst es => ds.length + es.length ≤ sizeLine ∧ A (ds ++ es)
  | _, _ => False
theorem oCat_ok : OR2L rCat oCat := fun F H x y d e Q A sm hx hy h q => by
  cases d <;> cases e <;> first | exact h.elim | skip
  rename_i ds es
  obtain ⟨h1, h2⟩ := h
  obtain ⟨a, vs, rfl, ea, dv⟩ := hx
  obtain ⟨b, ws, rfl, eb, dw⟩ := hy
  exact ⟨a, b, vs, ws, rfl, rfl, ea, eb, by rw [dv.length, dw.length]; exact h1, fun p n => q _ p _ n (dv.append dw) h2⟩
end
end Zi

set_option Elab.async false
set_option linter.all false
set_option maxRecDepth 100000
set_option maxHeartbeats 1000000
/-! Zk: slices, tests, arguments, displays, built-ins, methods, dicts, calls. -/
namespace Zi
open PySem PySem.Spec PyProof.Rows L2 Ly
variable [Zi.Wd]
section
variable {Z : EX} {K : PySem.W.Frag} {B : Bs} {F F' H H' : Hp} {al al' : Nat → Addr} {s s' : AS} {σ σ' : L2.St} {v : V} {x : D} {r : R} {cc : Cell} {o : HO} {a p : Addr} {i n : Nat} {ww : W}
/-! ### one place -/
def aUn (o : D → (D → Prop) → Prop) (a : AE) : AE := fun s A => a s fun r s1 => pk s1 r fun d => o d fun z => A (.w (.d z)) s1
theorem RE.un {r : V → Hp → VK → Prop} {o : D → (D → Prop) → Prop} {ta : TE} {a : AE} (hr : ∀ (F H : Hp) (x : V) (d : D) (Q : VK) (A : D → Prop), Same F H → Tv F H x d → o d A → (∀ z v, Dv F v z → A z → Q v H) → r x H Q) (ha : RE Z ta a) : RE Z (tUn r ta) (aUn o a) := fun B hB F al s σ H Q A X h q =>
  ha B hB F al s σ H _ _ X h fun r1 s1 F1 al1 H1 v1 x1 X1 rv1 h1 => by
    obtain ⟨d, e1, h1⟩ := pk_ok h1
    exact hr F1 H1 v1 d Q _ X1.sm (X1.peek rv1 e1) h1 fun z v dz hz => q (.w (.d z)) s1 F1 al1 H1 v x1 X1 dz hz
def oNeg : D → (D → Prop) → Prop := fun d A => match d with
  | .int i => A (.int (-i))
  | _ => False
theorem RE.neg {ta : TE} {a : AE} (ha : RE Z ta a) : RE Z (tUn (rU fun i => .int (-i)) ta) (aUn oNeg a) := RE.un (fun F H x d Q A sm hx h q => by
  cases d <;> first | exact h.elim | skip
  exact ⟨_, hx.intE, q _ _ (.int _) h⟩) ha
/-! ### parts of slices -/
abbrev AO := AS → (Option Int → AS → Prop) → Prop
def RO (Z : EX) (to : TO) (ao : AO) : Prop := ∀ B, Okx B Z → ∀ F al s σ H (Q : Option Int → Hp → Prop) (A : Option Int → AS → Prop), Rel B F al s σ H → ao s A →
  (∀ j s' F' al' H', Ext F F' al al' s.st.length s'.st.length → Rel B F' al' s' σ H' → A j s' → Q j H') → to σ H Q
def aNo : AO := fun s A => A none s
theorem RO.none : RO Z tNoPart aNo := fun B hB F al s σ H Q A X h q => q _ s F al H Ext.refl X h
def aSome (a : AE) : AO := fun s A => a s fun r s1 => pk s1 r fun d => match d with
  | .int i => A (some i) s1
  | _ => False
theorem RO.some {te : TE} {a : AE} (ha : RE Z te a) : RO Z (tPart te) (aSome a) := fun B hB F al s σ H Q A X h q =>
  ha B hB F al s σ H _ _ X h fun r1 s1 F1 al1 H1 v1 x1 X1 rv1 h1 => by
    obtain ⟨d, e1, h1⟩ := pk_ok h1
    cases d <;> first | exact h1.elim | skip
    exact ⟨_, (X1.peek rv1 e1).intE, q _ s1 F1 al1 H1 x1 X1 h1⟩
def cutZ {α : Type} (xs : List α) (lo hi : Option Int) : List α := (xs.drop (HT.sIx xs.length 0 lo)).take (HT.sIx xs.length xs.length hi - HT.sIx xs.length 0 lo)
theorem DvAll.cut {vs : List V} {ds : List D} (h : DvAll F vs ds) (lo hi : Option Int) : DvAll F (cutV vs lo hi) (cutZ ds lo hi) := by
  unfold cutV cutZ
  rw [h.length]
  exact (h.drop _).take _
def aSlL (a : AE) (l h : AO) : AN := fun s A => a s fun r s1 => l s1 fun lo s2 => h s2 fun hi s3 => pk s3 r fun d => match d with
  | .lst ds => A (.new (.lst (cutZ ds lo hi))) s3
  | _ => False
theorem RN.slL {te : TE} {tl th : TO} {a : AE} {l h : AO} (ha : RE Z te a) (hl : RO Z tl l) (hh : RO Z th h) : RN Z (tSl (rSlL K) te tl th) (aSlL a l h) := fun B hB F al s σ H Q A X e q =>
  ha B hB F al s σ H _ _ X e fun r1 s1 F1 al1 H1 v1 x1 X1 rv1 e1 => hl B hB F1 al1 s1 σ H1 _ _ X1 e1 fun lo s2 F2 al2 H2 x2 X2 e2 => hh B hB F2 al2 s2 σ H2 _ _ X2 e2 fun hi s3 F3 al3 H3 x3 X3 e3 => by
    obtain ⟨d, f1, e3⟩ := pk_ok e3
    cases d <;> first | exact e3.elim | skip
    obtain ⟨a, vs, rfl, ea, dv⟩ := X3.peek ((rv1.ext x2).ext x3) f1
    exact ⟨a, vs, rfl, SqL.of ea, fun p np => q (.new (.lst _)) s3 F3 al3 _ _ ((x1.trans x2).trans x3) (X3.newL np (dv.cut lo hi)).1 (X3.newL np (dv.cut lo hi)).2 e3⟩
theorem Rel.newT {vs : List V} {zs : List D} (X : Rel B F al s σ H) (n : H p = none) (h : DvAll F vs zs) : ∃ F', Ext F F' al al s.st.length s.st.length ∧ Rel B F' al s σ (upd H p (.tup vs)) ∧ Dv F' (.ref p) (.tup zs) :=
  ⟨_, Ext.frz (X.sm.free n), (X.new n).frz (X.apart n) upd_same, .tup upd_same (h.mono (Ext.frz (al := al) (L := 0) (X.sm.free n)).ff)⟩
def partT (n : Nat) (lo hi : Option Int) : Prop := ¬ (HT.sIx n 0 lo = 0 ∧ HT.sIx n n hi = n)
def aSlT (a : AE) (l h : AO) : AE := fun s A => a s fun r s1 => l s1 fun lo s2 => h s2 fun hi s3 => pk s3 r fun d => match d with
  | .tup ds => partT ds.length lo hi ∧ A (.w (.d (.tup (cutZ ds lo hi)))) s3
  | _ => False
theorem RE.slT {te : TE} {tl th : TO} {a : AE} {l h : AO} (ha : RE Z te a) (hl : RO Z tl l) (hh : RO Z th h) : RE Z (tSl (rSlT K) te tl th) (aSlT a l h) := fun B hB F al s σ H Q A X e q =>
  ha B hB F al s σ H _ _ X e fun r1 s1 F1 al1 H1 v1 x1 X1 rv1 e1 => hl B hB F1 al1 s1 σ H1 _ _ X1 e1 fun lo s2 F2 al2 H2 x2 X2 e2 => hh B hB F2 al2 s2 σ H2 _ _ X2 e2 fun hi s3 F3 al3 H3 x3 X3 e3 => by
    obtain ⟨d, f1, e3⟩ := pk_ok e3
    cases d <;> first | exact e3.elim | skip
    obtain ⟨a, vs, rfl, ea, dv⟩ := X3.peek ((rv1.ext x2).ext x3) f1
    refine ⟨a, vs, rfl, SqT.of ea, by rw [dv.length]; exact e3.1, fun p np => ?_⟩
    obtain ⟨F4, x4, X4, d4⟩ := X3.newT np (dv.cut lo hi)
    exact q (.w (.d (.tup _))) s3 F4 al3 _ _ (((x1.trans x2).trans x3).trans x4) X4 d4 e3.2
def aRevL (a : AE) : AN := fun s A => a s fun r s1 => pk s1 r fun d => match d with
  | .lst ds => A (.new (.lst ds.reverse)) s1
  | _ => False
theorem RN.revL {te : TE} {a : AE} (ha : RE Z te a) : RN Z (tRevL K te) (aRevL a) := fun B hB F al s σ H Q A X e q =>
  ha B hB F al s σ H _ _ X e fun r1 s1 F1 al1 H1 v1 x1 X1 rv1 e1 => by
    obtain ⟨d, f1, e3⟩ := pk_ok e1
    cases d <;> first | exact e3.elim | skip
    obtain ⟨a, vs, rfl, ea, dv⟩ := X1.peek rv1 f1
    exact ⟨a, vs, rfl, SqL.of ea, fun p np => q (.new (.lst _)) s1 F1 al1 _ _ x1 (X1.newL np dv.reverse).1 (X1.newL np dv.reverse).2 e3⟩
/-! ### tests -/
def aT (a : AE) : AT := fun s A => a s fun r s1 => pk s1 r fun d => match d with
  | .bl b => A b s1
  | _ => False
theorem RT.test {te : TE} {a : AE} (ha : RE Z te a) : RT Z (tTest te) (aT a) := fun B hB F al s σ H Q A X h q =>
  ha B hB F al s σ H _ _ X h fun r1 s1 F1 al1 H1 v1 x1 X1 rv1 h1 => by
    obtain ⟨d, e1, h1⟩ := pk_ok h1
    cases d <;> first | exact h1.elim | skip
    exact ⟨_, (X1.peek rv1 e1).blE, q _ s1 F1 al1 H1 x1 X1 h1⟩
theorem RT.b {te : TE} {a : AE} (ha : RE Z te a) : RT Z (tB te) (aT a) := fun B hB F al s σ H Q A X h q =>
  ha B hB F al s σ H _ _ X h fun r1 s1 F1 al1 H1 v1 x1 X1 rv1 h1 => by
    obtain ⟨d, e1, h1⟩ := pk_ok h1
    cases d <;> first | exact h1.elim | skip
    exact ⟨_, (X1.peek rv1 e1).blE, q _ s1 F1 al1 H1 x1 X1 h1⟩
def aYes : AT := fun s A => A true s
theorem RT.yes : RT Z tYes aYes := fun B hB F al s σ H Q A X h q => q _ s F al H Ext.refl X h
def aAnd (t u : AT) : AT := fun s A => t s fun b s1 => if b = true then u s1 A else A false s1
theorem RT.and {t u : TT} {t' u' : AT} (ht : RT Z t t') (hu : RT Z u u') : RT Z (tAnd t u) (aAnd t' u') := fun B hB F al s σ H Q A X h q =>
  ht B hB F al s σ H _ _ X h fun b s1 F1 al1 H1 x1 X1 h1 => by
    cases b with
    | true => exact hu B hB F1 al1 s1 σ H1 _ _ X1 h1 fun b s2 F2 al2 H2 x2 X2 h2 => q b s2 F2 al2 H2 (x1.trans x2) X2 h2
    | false => exact q false s1 F1 al1 H1 x1 X1 h1
def aOr (t u : AT) : AT := fun s A => t s fun b s1 => if b = true then A true s1 else u s1 A
theorem RT.or {t u : TT} {t' u' : AT} (ht : RT Z t t') (hu : RT Z u u') : RT Z (tOr t u) (aOr t' u') := fun B hB F al s σ H Q A X h q =>
  ht B hB F al s σ H _ _ X h fun b s1 F1 al1 H1 x1 X1 h1 => by
    cases b with
    | false => exact hu B hB F1 al1 s1 σ H1 _ _ X1 h1 fun b s2 F2 al2 H2 x2 X2 h2 => q b s2 F2 al2 H2 (x1.trans x2) X2 h2
    | true => exact q true s1 F1 al1 H1 x1 X1 h1
def aNot (t : AT) : AT := fun s A => t s fun b s1 => A (!b) s1
theorem RT.not {t : TT} {t' : AT} (ht : RT Z t t') : RT Z (tNot t) (aNot t') := fun B hB F al s σ H Q A X h q =>
  ht B hB F al s σ H _ _ X h fun b s1 F1 al1 H1 x1 X1 h1 => q _ s1 F1 al1 H1 x1 X1 h1
/-- and, or, not as values -/
def aAndV (a b : AE) : AE := fun s A => a s fun r s1 => pk s1 r fun d => match d with
  | .bl c => if c = true then b s1 A else A (.w (.d (.bl false))) s1
  | _ => False
theorem RE.andV {ta tb : TE} {a b : AE} (ha : RE Z ta a) (hb : RE Z tb b) : RE Z (tAndV ta tb) (aAndV a b) := fun B hB F al s σ H Q A X h q =>
  ha B hB F al s σ H _ _ X h fun r1 s1 F1 al1 H1 v1 x1 X1 rv1 h1 => by
    obtain ⟨d, e1, h1⟩ := pk_ok h1
    cases d <;> first | exact h1.elim | skip
    rename_i c
    refine ⟨c, (X1.peek rv1 e1).blE, ?_⟩
    cases c with
    | true => exact hb B hB F1 al1 s1 σ H1 _ _ X1 h1 fun r s2 F2 al2 H2 v x2 X2 rv h2 => q r s2 F2 al2 H2 v (x1.trans x2) X2 rv h2
    | false => exact q (.w (.d (.bl false))) s1 F1 al1 H1 _ x1 X1 (Dv.bl false) h1
def aOrV (a b : AE) : AE := fun s A => a s fun r s1 => pk s1 r fun d => match d with
  | .bl c => if c = true then A (.w (.d (.bl true))) s1 else b s1 A
  | _ => False
theorem RE.orV {ta tb : TE} {a b : AE} (ha : RE Z ta a) (hb : RE Z tb b) : RE Z (tOrV ta tb) (aOrV a b) := fun B hB F al s σ H Q A X h q =>
  ha B hB F al s σ H _ _ X h fun r1 s1 F1 al1 H1 v1 x1 X1 rv1 h1 => by
    obtain ⟨d, e1, h1⟩ := pk_ok h1
    cases d <;> first | exact h1.elim | skip
    rename_i c
    refine ⟨c, (X1.peek rv1 e1).blE, ?_⟩
    cases c with
    | false => exact hb B hB F1 al1 s1 σ H1 _ _ X1 h1 fun r s2 F2 al2 H2 v x2 X2 rv h2 => q r s2 F2 al2 H2 v (x1.trans x2) X2 rv h2
    | true => exact q (.w (.d (.bl true))) s1 F1 al1 H1 _ x1 X1 (Dv.bl true) h1
def aNotV (a : AE) : AE := fun s A => a s fun r s1 => pk s1 r fun d => match d with
  | .bl c => A (.w (.d (.bl (!c)))) s1
  | _ => False
theorem RE.notV {ta : TE} {a : AE} (ha : RE Z ta a) : RE Z (tNotV ta) (aNotV a) := fun B hB F al s σ H Q A X h q =>
  ha B hB F al s σ H _ _ X h fun r1 s1 F1 al1 H1 v1 x1 X1 rv1 h1 => by
    obtain ⟨d, e1, h1⟩ := pk_ok h1
    cases d <;> first | exact h1.elim | skip
    rename_i c
    exact ⟨c, (X1.peek rv1 e1).blE, q (.w (.d (.bl (!c)))) s1 F1 al1 H1 _ x1 X1 (Dv.bl _) h1⟩
def aIfE (t : AT) (a b : AE) : AE := fun s A => t s fun c s1 => if c = true then a s1 A else b s1 A
theorem RE.ife {t : TT} {ta tb : TE} {t' : AT} {a b : AE} (ht : RT Z t t') (ha : RE Z ta a) (hb : RE Z tb b) : RE Z (tIf t ta tb) (aIfE t' a b) := fun B hB F al s σ H Q A X h q =>
  ht B hB F al s σ H _ _ X h fun c s1 F1 al1 H1 x1 X1 h1 => by
    cases c with
    | true => exact ha B hB F1 al1 s1 σ H1 _ _ X1 h1 fun r s2 F2 al2 H2 v x2 X2 rv h2 => q r s2 F2 al2 H2 v (x1.trans x2) X2 rv h2
    | false => exact hb B hB F1 al1 s1 σ H1 _ _ X1 h1 fun r s2 F2 al2 H2 v x2 X2 rv h2 => q r s2 F2 al2 H2 v (x1.trans x2) X2 rv h2
def aChain (o o' : O2) (a b c : AE) : AE := fun s A => a s fun r s1 => b s1 fun r' s2 => pk s2 r fun d => pk s2 r' fun e => o d e fun z => match z with
  | .bl k => if k = true then c s2 fun r2 s3 => pk s3 r' fun e => pk s3 r2 fun f => o' e f fun z => A (.w (.d z)) s3 else A (.w (.d (.bl false))) s2
  | _ => False
theorem RE.chain {r r' : R2} {o o' : O2} {ta tb tc : TE} {a b c : AE} (hr : OR2 r o) (hr' : OR2 r' o') (ha : RE Z ta a) (hb : RE Z tb b) (hc : RE Z tc c) : RE Z (tChain r r' ta tb tc) (aChain o o' a b c) := by
    intro B hB F al s σ H Q A X h q
    refine ha B hB F al s σ H _ _ X h ?_
    intro r1 s1 F1 al1 H1 v1 x1 X1 rv1 h1
    refine hb B hB F1 al1 s1 σ H1 _ _ X1 h1 ?_
    intro r2 s2 F2 al2 H2 v2 x2 X2 rv2 h2
    obtain ⟨d, e1, h2⟩ := pk_ok h2
    obtain ⟨e, e2, h2⟩ := pk_ok h2
    refine hr F2 H2 v1 v2 d e _ _ X2.sm (X2.peek (rv1.ext x2) e1) (X2.peek rv2 e2) h2 fun z v dz hz => ?_
    cases z <;> first | exact hz.elim | skip
    rename_i k
    refine ⟨k, dz.blE, ?_⟩
    cases k with
    | false => exact q (.w (.d (.bl false))) s2 F2 al2 H2 _ (x1.trans x2) X2 (Dv.bl false) hz
    | true =>
        refine hc B hB F2 al2 s2 σ H2 _ _ X2 hz ?_
        intro r3 s3 F3 al3 H3 v3 x3 X3 rv3 h3
        obtain ⟨e', f1, h3⟩ := pk_ok h3
        obtain ⟨f, f2, h3⟩ := pk_ok h3
        exact hr' F3 H3 v2 v3 e' f Q _ X3.sm (X3.peek (rv2.ext x3) f1) (X3.peek rv3 f2) h3 fun z v dz hz => q (.w (.d z)) s3 F3 al3 H3 v ((x1.trans x2).trans x3) X3 dz hz
/-- is None, is not None -/
def oIsN (neg : Bool) : O2 := fun d e A => match e with
  | .non => A (.bl (if neg then !(match d with | .non => true | _ => false) else match d with | .non => true | _ => false))
  | _ => False
/-! ### arguments -/
def aNil : AA := fun s A => A [] s
theorem RA.nil : RA Z tNil aNil := fun B hB F al s σ H Q A X h q => q [] s F al H [] Ext.refl X .nil h
def aCons (a : AE) (t : AA) : AA := fun s A => a s fun r s1 => toW r s1 fun w s2 => t s2 fun ws s3 => A (w :: ws) s3
theorem RA.cons {te : TE} {tr : TA} {a : AE} {t : AA} (ha : RE Z te a) (ht : RA Z tr t) : RA Z (tCons te tr) (aCons a t) := fun B hB F al s σ H Q A X h q =>
  ha B hB F al s σ H _ _ X h fun r1 s1 F1 al1 H1 v1 x1 X1 rv1 h1 => by
    obtain ⟨F2, al2, w, s2, x2, X2, wv, h2⟩ := toW_ok X1 rv1 h1
    exact ht B hB F2 al2 s2 σ H1 _ _ X2 h2 fun ws s3 F3 al3 H3 vs x3 X3 wvs h3 => q (w :: ws) s3 F3 al3 H3 (v1 :: vs) ((x1.trans x2).trans x3) X3 (.cons (wv.ext x3) wvs) h3
/-- an argument that the callee may change -/
def aConsL (a : AE) (t : AA) : AA := fun s A => a s fun r s1 => toL r s1 fun w s2 => t s2 fun ws s3 => A (w :: ws) s3
theorem RA.consL {te : TE} {tr : TA} {a : AE} {t : AA} (ha : RE Z te a) (ht : RA Z tr t) : RA Z (tCons te tr) (aConsL a t) := fun B hB F al s σ H Q A X h q =>
  ha B hB F al s σ H _ _ X h fun r1 s1 F1 al1 H1 v1 x1 X1 rv1 h1 => by
    obtain ⟨F2, al2, w, s2, x2, X2, wv, h2⟩ := toL_ok X1 rv1 h1
    exact ht B hB F2 al2 s2 σ H1 _ _ X2 h2 fun ws s3 F3 al3 H3 vs x3 X3 wvs h3 => q (w :: ws) s3 F3 al3 H3 (v1 :: vs) ((x1.trans x2).trans x3) X3 (.cons (wv.ext x3) wvs) h3
def wsD : List W → Option (List D)
  | [] => some []
  | .d x :: ws => match wsD ws with
    | some ds => some (x :: ds)
    | none => none
  | _ :: _ => none
theorem WVs.dv {L : Nat} : ∀ {ws : List W} {vs : List V} {ds : List D}, WVs F al L ws vs → wsD ws = some ds → DvAll F vs ds
  | _, _, _, .nil, e => by cases e; exact .nil
  | w :: ws, _, _, .cons h t, e => by
    cases w with
    | d x =>
      unfold wsD at e
      cases z : wsD ws with
      | none => rw [z] at e; cases e
      | some ds => rw [z] at e; cases e; exact .cons h (WVs.dv t z)
    | loc n => cases e
    | raw u φ => cases e
    | tp us => cases e
def aTup (t : AA) : AE := fun s A => t s fun ws s1 => ws.length ≤ sizeLine ∧ match wsD ws with
  | some ds => A (.w (.d (.tup ds))) s1
  | none => False
theorem Paired.len {α β : Type} {P : α → β → Prop} : ∀ {xs : List α} {ys : List β}, Paired P xs ys → xs.length = ys.length
  | _, _, .nil => rfl
  | _, _, .cons _ t => by rw [List.length_cons, List.length_cons, Paired.len t]
theorem RE.tup {ta : TA} {t : AA} (ht : RA Z ta t) : RE Z (tTup ta) (aTup t) := fun B hB F al s σ H Q A X h q =>
  ht B hB F al s σ H _ _ X h fun ws s1 F1 al1 H1 vs x1 X1 wvs h1 => by
    refine ⟨by rw [← Paired.len wvs]; exact h1.1, fun p np => ?_⟩
    have h1 := h1.2
    cases z : wsD ws with
    | none => rw [z] at h1; exact h1.elim
    | some ds =>
      rw [z] at h1
      obtain ⟨F2, x2, X2, d2⟩ := X1.newT np (WVs.dv wvs z)
      exact q (.w (.d (.tup ds))) s1 F2 al1 _ _ (x1.trans x2) X2 d2 h1
def lstC (ws : List W) : Cell := match wsD ws with
  | some ds => .lst ds
  | none => .lsw ws
def aLst (t : AA) : AN := fun s A => t s fun ws s1 => ws.length ≤ sizeLine ∧ A (.new (lstC ws)) s1
theorem RN.lst {ta : TA} {t : AA} (ht : RA Z ta t) : RN Z (tLst ta) (aLst t) := fun B hB F al s σ H Q A X h q =>
  ht B hB F al s σ H _ _ X h fun ws s1 F1 al1 H1 vs x1 X1 wvs h1 => by
    refine ⟨by rw [← Paired.len wvs]; exact h1.1, fun p np => ?_⟩
    refine q (.new (lstC ws)) s1 F1 al1 _ _ x1 (X1.new np) ((X1.apart np).nve ⟨X1.sm.free np, _, upd_same, ?_⟩) h1.2
    unfold lstC
    cases z : wsD ws with
    | none => exact .lsw wvs
    | some ds => exact .lst (WVs.dv wvs z)
/-! ### built-ins by their arguments' data -/
abbrev AR := AS → (List R → AS → Prop) → Prop
def RR (Z : EX) (ta : TA) (ar : AR) : Prop := ∀ B, Okx B Z → ∀ F al s σ H (Q : List V → Hp → Prop) (A : List R → AS → Prop), Rel B F al s σ H → ar s A →
  (∀ rs s' F' al' H' vs, Ext F F' al al' s.st.length s'.st.length → Rel B F' al' s' σ H' → Paired (RV F' al' s'.st.length σ) rs vs → A rs s' → Q vs H') → ta σ H Q
def rNil : AR := fun s A => A [] s
theorem RR.nil : RR Z tNil rNil := fun B hB F al s σ H Q A X h q => q [] s F al H [] Ext.refl X .nil h
def rCons (a : AE) (t : AR) : AR := fun s A => a s fun r s1 => t s1 fun rs s2 => A (r :: rs) s2
theorem RR.cons {te : TE} {tr : TA} {a : AE} {t : AR} (ha : RE Z te a) (ht : RR Z tr t) : RR Z (tCons te tr) (rCons a t) := fun B hB F al s σ H Q A X h q =>
  ha B hB F al s σ H _ _ X h fun r1 s1 F1 al1 H1 v1 x1 X1 rv1 h1 => ht B hB F1 al1 s1 σ H1 _ _ X1 h1 fun rs s2 F2 al2 H2 vs x2 X2 rvs h2 =>
    q (r1 :: rs) s2 F2 al2 H2 (v1 :: vs) (x1.trans x2) X2 (.cons (rv1.ext x2) rvs) h2
def pks (s : AS) : List R → Option (List D)
  | [] => some []
  | r :: rs => match peek s r, pks s rs with
    | some d, some ds => some (d :: ds)
    | _, _ => none
theorem Rel.peeks {s : AS} (X : Rel B F al s σ H) : ∀ {rs : List R} {vs : List V} {ds : List D}, Paired (RV F al s.st.length σ) rs vs → pks s rs = some ds → Paired (Tv F H) vs ds
  | _, _, _, .nil, e => by cases e; exact .nil
  | r :: rs, _, _, .cons h t, e => by
    unfold pks at e
    cases z : Zi.peek s r with
    | none => rw [z] at e; cases e
    | some d =>
      cases y : pks s rs with
      | none => rw [z, y] at e; cases e
      | some ds => rw [z, y] at e; cases e; exact .cons (Rel.peek X h z) (Rel.peeks X t y)
def OB (r : List V → Hp → VK → Prop) (o : List D → (D → Prop) → Prop) : Prop := ∀ (F H : Hp) (vs : List V) (ds : List D) (Q : VK) (A : D → Prop), Same F H → Paired (Tv F H) vs ds → o ds A → (∀ z v, Dv F v z → A z → Q v H) → r vs H Q
def aCB (o : List D → (D → Prop) → Prop) (t : AR) : AE := fun s A => t s fun rs s1 => match pks s1 rs with
  | some ds => o ds fun z => A (.w (.d z)) s1
  | none => False
theorem RE.cb {r : List V → Hp → VK → Prop} {o : List D → (D → Prop) → Prop} {ta : TA} {t : AR} (hr : OB r o) (ht : RR Z ta t) : RE Z (tCB r ta) (aCB o t) := fun B hB F al s σ H Q A X h q =>
  ht B hB F al s σ H _ _ X h fun rs s1 F1 al1 H1 vs x1 X1 rvs h1 => by
    cases z : pks s1 rs with
    | none => rw [z] at h1; exact h1.elim
    | some ds =>
      rw [z] at h1
      exact hr F1 H1 vs ds Q _ X1.sm (X1.peeks rvs z) h1 fun z v dz hz => q (.w (.d z)) s1 F1 al1 H1 v x1 X1 dz hz
def OBL (r : List V → Hp → VK → Prop) (o : List D → (List D → Prop) → Prop) : Prop := ∀ (F H : Hp) (vs : List V) (ds : List D) (Q : VK) (A : List D → Prop), Same F H → Paired (Tv F H) vs ds → o ds A → (∀ zs p us, H p = none → DvAll F us zs → A zs → Q (.ref p) (upd H p (.lst us))) → r vs H Q
def aCBL (o : List D → (List D → Prop) → Prop) (t : AR) : AN := fun s A => t s fun rs s1 => match pks s1 rs with
  | some ds => o ds fun zs => A (.new (.lst zs)) s1
  | none => False
theorem RN.cb {r : List V → Hp → VK → Prop} {o : List D → (List D → Prop) → Prop} {ta : TA} {t : AR} (hr : OBL r o) (ht : RR Z ta t) : RN Z (tCB r ta) (aCBL o t) := fun B hB F al s σ H Q A X h q =>
  ht B hB F al s σ H _ _ X h fun rs s1 F1 al1 H1 vs x1 X1 rvs h1 => by
    cases z : pks s1 rs with
    | none => rw [z] at h1; exact h1.elim
    | some ds =>
      rw [z] at h1
      exact hr F1 H1 vs ds Q _ X1.sm (X1.peeks rvs z) h1 fun zs p us n dz hz => q (.new (.lst zs)) s1 F1 al1 _ _ x1 (X1.newL n dz).1 (X1.newL n dz).2 hz
def bLen : List D → (D → Prop) → Prop := fun ds A => match ds with
  | [.lst xs] => A (.int xs.length)
  | [.tup xs] => A (.int xs.length)
  | _ => False
theorem bLen_ok : OB (rLenQ K) bLen := fun F H vs ds Q A sm tv h q => by
  unfold bLen at h
  split at h
  · cases tv with
    | cons t1 t => cases t; obtain ⟨a, us, rfl, ea, dv⟩ := t1; exact ⟨a, us, rfl, .inl (SqL.of ea), by rw [dv.length]; exact q _ _ (.int _) h⟩
  · cases tv with
    | cons t1 t => cases t; obtain ⟨a, us, rfl, ea, dv⟩ := t1; exact ⟨a, us, rfl, .inr (SqT.of ea), by rw [dv.length]; exact q _ _ (.int _) h⟩
  · exact h.elim
def bList : List D → (List D → Prop) → Prop := fun ds A => match ds with
  | [.lst xs] => A xs
  | [.tup xs] => A xs
  | _ => False
theorem bList_ok : OBL (rListOf K) bList := fun F H vs ds Q A sm tv h q => by
  unfold bList at h
  split at h
  · cases tv with
    | cons t1 t => cases t; obtain ⟨a, us, rfl, ea, dv⟩ := t1; exact ⟨a, us, rfl, .inl (SqL.of ea), fun l nl => q _ l us nl dv h⟩
  · cases tv with
    | cons t1 t => cases t; obtain ⟨a, us, rfl, ea, dv⟩ := t1; exact ⟨a, us, rfl, .inr (SqT.of ea), fun l nl => q _ l us nl dv h⟩
  · exact h.elim
/-! ### containers changed in place -/
def getC (s : AS) : R → Option Cell
  | .w (.loc n) => s.st[n]?
  | .w _ => none
  | .sl i => match s.env[i]? with
    | some (.own c) => some c
    | some (.v (.loc n)) => s.st[n]?
    | _ => none
def putC (s : AS) (r : R) (c : Cell) : AS := match r with
  | .w (.loc n) => ⟨s.env, s.st.set n c⟩
  | .w _ => s
  | .sl i => match s.env[i]? with
    | some (.own _) => ⟨s.env.set i (.own c), s.st⟩
    | some (.v (.loc n)) => ⟨s.env, s.st.set n c⟩
    | _ => s
theorem Rel.getC {c : Cell} (X : Rel B F al s σ H) (h : RV F al s.st.length σ r v) (e : getC s r = some c) :
    ∃ a o, v = .ref a ∧ H a = some o ∧ CO F al s.st.length a o c ∧ ∀ o' c', CO F al s.st.length a o' c' → Rel B F al (putC s r c') σ (upd H a o') ∧ (putC s r c').st.length = s.st.length := by
  have ofS : ∀ n, s.st[n]? = some c → v = .ref (al n) → ∃ a o, v = .ref a ∧ H a = some o ∧ CO F al s.st.length a o c ∧ ∀ o' c', CO F al s.st.length a o' c' → Rel B F al ⟨s.env, s.st.set n c'⟩ σ (upd H a o') ∧ (s.st.set n c').length = s.st.length := by
    rintro n en rfl
    obtain ⟨_, _, o, ho, hc⟩ := X.cl n c en
    exact ⟨_, o, rfl, ho, hc, fun o' c' z => ⟨X.putS en z, List.length_set⟩⟩
  cases r with
  | w w =>
    cases w with
    | d x => cases e
    | raw u φ => cases e
    | tp us => cases e
    | loc n => exact ofS n e h.1
  | sl i =>
    have h : σ[i]? = some (some v) := h
    unfold Zi.getC at e
    unfold putC
    simp only at e ⊢
    cases q : s.env[i]? with
    | none => rw [q] at e; cases e
    | some z =>
      rw [q] at e
      cases z with
      | no => cases e
      | own c1 =>
        cases e
        obtain ⟨a, ha, _, ⟨_, o, ho, hc⟩, _⟩ := X.eo i c q
        rw [h] at ha; cases ha
        exact ⟨a, o, rfl, ho, hc, fun o' c' z => ⟨X.putO q h z, rfl⟩⟩
      | v w =>
        cases w with
        | d x => cases e
        | raw u φ => cases e
        | tp us => cases e
        | loc n =>
          obtain ⟨u, hu, hw⟩ := X.ev i _ q
          rw [h] at hu; cases hu
          exact ofS n e hw.1
abbrev OM := Cell → List W → (Cell → W → Prop) → Prop
def MR (rr : V → List V → Hp → VK → Prop) (m : OM) : Prop := ∀ (F : Hp) (al : Nat → Addr) (L : Nat) (H : Hp) (a : Addr) (o : HO) (c : Cell) (ws : List W) (vs : List V) (Q : VK) (A : Cell → W → Prop), H a = some o → CO F al L a o c → WVs F al L ws vs → m c ws A →
  (∀ c' w o' v, CO F al L a o' c' → WV F al L w v → A c' w → Q v (upd H a o')) → rr (.ref a) vs H Q
def isL (c : Option Cell) : Prop := match c with
  | some (.lst _) => True
  | some (.lsw _) => True
  | _ => False
def aBM (m : OM) (a : AE) (t : AA) : AE := fun s A => a s fun r s1 => isL (getC s1 r) ∧ t s1 fun ws s2 => match getC s2 r with
  | some c => m c ws fun c' w => A (.w w) (putC s2 r c')
  | none => False
def aBM0 (m : OM) (a : AE) : AE := fun s A => a s fun r s1 => isL (getC s1 r) ∧ match getC s1 r with
  | some c => m c [] fun c' w => A (.w w) (putC s1 r c')
  | none => False
theorem tyL (X : Rel B F al s σ H) (h : RV F al s.st.length σ r v) (e : isL (getC s r)) : tyV K "list" v H := by
  cases z : getC s r with
  | none => rw [z] at e; exact e.elim
  | some c =>
    rw [z] at e
    obtain ⟨a, o, rfl, ho, hc, _⟩ := X.getC h z
    cases hc with
    | lst h => exact .inl ⟨rfl, _, SqL.of ho⟩
    | lsw h => exact .inl ⟨rfl, _, SqL.of ho⟩
    | dic h => exact e.elim
    | ins h => exact e.elim
    | dit _ _ _ => exact e.elim
theorem RE.bm {rr : V → List V → Hp → VK → Prop} {m : OM} {to : TE} {ta : TA} {a : AE} {t : AA} (hm : MR rr m) (ha : RE Z to a) (ht : RA Z ta t) : RE Z (tBM K "list" rr to ta) (aBM m a t) := fun B hB F al s σ H Q A X h q =>
  ha B hB F al s σ H _ _ X h fun r1 s1 F1 al1 H1 v1 x1 X1 rv1 h1 => ⟨tyL X1 rv1 h1.1, ht B hB F1 al1 s1 σ H1 _ _ X1 h1.2 fun ws s2 F2 al2 H2 vs x2 X2 wvs h2 => by
    cases z : getC s2 r1 with
    | none => rw [z] at h2; exact h2.elim
    | some c =>
      rw [z] at h2
      obtain ⟨a, o, rfl, ho, hc, put⟩ := X2.getC (rv1.ext x2) z
      refine hm F2 al2 _ H2 a o c ws vs Q _ ho hc wvs h2 fun c' w o' v z1 z2 z3 => ?_
      obtain ⟨X3, e3⟩ := put o' c' z1
      exact q (.w w) _ F2 al2 _ v (by rw [e3]; exact x1.trans x2) X3 (by show WV F2 al2 _ w v; rw [e3]; exact z2) z3⟩
theorem RE.bm0 {rr : V → List V → Hp → VK → Prop} {m : OM} {to : TE} {a : AE} (hm : MR rr m) (ha : RE Z to a) : RE Z (tBM0 K "list" rr to) (aBM0 m a) := fun B hB F al s σ H Q A X h q =>
  ha B hB F al s σ H _ _ X h fun r1 s1 F1 al1 H1 v1 x1 X1 rv1 h1 => ⟨tyL X1 rv1 h1.1, by
    have h2 := h1.2
    cases z : getC s1 r1 with
    | none => rw [z] at h2; exact h2.elim
    | some c =>
      rw [z] at h2
      obtain ⟨a, o, rfl, ho, hc, put⟩ := X1.getC rv1 z
      refine hm F1 al1 _ H1 a o c [] [] Q _ ho hc .nil h2 fun c' w o' v z1 z2 z3 => ?_
      obtain ⟨X3, e3⟩ := put o' c' z1
      exact q (.w w) _ F1 al1 _ v (by rw [e3]; exact x1) X3 (by show WV F1 al1 _ w v; rw [e3]; exact z2) z3⟩
def mAppend : OM := fun c ws A => match c, ws with
  | .lst ds, [.d x] => ds.length < sizeLine ∧ A (.lst (ds ++ [x])) (.d .non)
  | .lst [], [.loc n] => A (.lsw [.loc n]) (.d .non)
  | .lsw us, [w] => us.length < sizeLine ∧ A (.lsw (us ++ [w])) (.d .non)
  | _, _ => False
theorem Paired.app {α β : Type} {P : α → β → Prop} : ∀ {xs xs' : List α} {ys ys' : List β}, Paired P xs ys → Paired P xs' ys' → Paired P (xs ++ xs') (ys ++ ys')
  | _, _, _, _, .nil, s => s
  | _, _, _, _, .cons r t, s => .cons r (Paired.app t s)
theorem mAppend_ok : MR rAppend mAppend := fun F al L H a o c ws vs Q A ho hc wv h q => by
  unfold mAppend at h
  split at h
  · cases wv with | cons h1 t => ?_
    cases t
    cases hc with | lst dv => ?_
    exact ⟨a, _, _, rfl, rfl, ho, by rw [dv.length]; exact h.1, q _ _ _ _ (.lst (dv.append (.cons h1 .nil))) (show WV F al L (.d .non) .non from Dv.non) h.2⟩
  · cases wv with | cons h1 t => ?_
    cases t
    cases hc with | lst dv => ?_
    cases dv
    exact ⟨a, _, _, rfl, rfl, ho, by decide, q _ _ _ _ (.lsw (.cons h1 .nil)) (show WV F al L (.d .non) .non from Dv.non) h⟩
  · cases wv with | cons h1 t => ?_
    cases t
    cases hc with | lsw dv => ?_
    exact ⟨a, _, _, rfl, rfl, ho, by rw [← Paired.len dv]; exact h.1, q _ _ _ _ (.lsw (Paired.app dv (.cons h1 .nil))) (show WV F al L (.d .non) .non from Dv.non) h.2⟩
  · exact h.elim
def mPop : OM := fun c ws A => match c, ws with
  | .lst ds, [] => match ds[ds.length - 1]? with
    | some x => A (.lst ds.dropLast) (.d x)
    | none => False
  | _, _ => False
theorem DvAll.dropLast {vs : List V} {ds : List D} (h : DvAll F vs ds) : DvAll F vs.dropLast ds.dropLast := by
  rw [List.dropLast_eq_take, List.dropLast_eq_take, h.length]; exact h.take _
theorem mPop_ok : MR rPop mPop := fun F al L H a o c ws vs Q A ho hc wv h q => by
  unfold mPop at h
  split at h
  · cases wv
    cases hc with | lst dv => ?_
    split at h
    · rename_i x e
      rw [← dv.length] at e
      obtain ⟨v, h1, h2⟩ := dv.get e
      exact ⟨a, _, v, rfl, rfl, ho, h1, q _ (.d x) _ _ (.lst dv.dropLast) h2 h⟩
    · exact h.elim
  · exact h.elim
def mPopAt : OM := fun c ws A => match c, ws with
  | .lst ds, [.d (.int i)] => -(2 ^ 63) ≤ i ∧ i < 2 ^ 63 ∧ match seqIndex? i ds.length with
    | some k => match ds[k]? with
      | some x => A (.lst (ds.eraseIdx k)) (.d x)
      | none => False
    | none => False
  | _, _ => False
theorem mPopAt_ok : MR rPopAt mPopAt := fun F al L H a o c ws vs Q A ho hc wv h q => by
  unfold mPopAt at h
  split at h
  · cases wv with | cons h1 t => ?_
    cases t
    cases (show Dv F _ (.int _) from h1).intE
    cases hc with | lst dv => ?_
    obtain ⟨b1, b2, h⟩ := h
    split at h
    · rename_i k ek
      split at h
      · rename_i x e
        obtain ⟨v, h1, h2⟩ := dv.get e
        exact ⟨a, _, _, k, v, rfl, rfl, ho, b1, b2, by rw [dv.length]; exact ek, h1, q _ (.d x) _ _ (.lst (dv.eraseIdx k)) h2 h⟩
      · exact h.elim
    · exact h.elim
  · exact h.elim
end
end Zi

set_option Elab.async false
set_option linter.all false
set_option maxRecDepth 100000
set_option maxHeartbeats 1000000
/-! Zl: calls, statements, loops, comprehensions. -/
namespace Zi
open PySem PySem.Spec PyProof.Rows L2 Ly
variable [Zi.Wd]
/-! ### a base anew, an object guarded -/
def Bs.re (B : Bs) (F : Hp) (al : Nat → Addr) (L : Nat) : Bs := ⟨B.G, F, al, L⟩
def Bs.gd (B : Bs) (p : Addr) (o : HO) : Bs := ⟨upd B.G p o, B.F, B.al, B.L⟩
section
variable {Z : EX} {K : PySem.W.Frag} {B : Bs} {F F' F1 H H' : Hp} {al al' al1 : Nat → Addr} {s s' : AS} {σ σ' : L2.St} {v : V} {x : D} {r : R} {cc : Cell} {o : HO} {a p : Addr} {i n L L' : Nat} {ww : W} {st st' : List Cell}
theorem RelS.re (X : RelS B F al st H) : RelS (B.re F al st.length) F al st H := { X with ex := Ext.refl }
theorem Rel.re (X : Rel B F al s σ H) : Rel (B.re F al s.st.length) F al s σ H := { X with toRelS := X.toRelS.re }
theorem RelS.un (E : Ext B.F F B.al al B.L L) (X : RelS (B.re F al L) F' al' st H) : RelS B F' al' st H := { X with ex := E.trans X.ex }
theorem Rel.un (E : Ext B.F F B.al al B.L L) (X : Rel (B.re F al L) F' al' s σ H) : Rel B F' al' s σ H := { X with toRelS := X.toRelS.un E }
theorem Okx.re (h : Okx B Z) (E : Ext B.F F B.al al B.L L) : Okx (B.re F al L) Z := fun C fs st' e F' al' H' d vs X => h C fs st' e F' al' H' d vs (X.un E)
theorem RelS.guard (X : RelS B F al st H) (g : B.G p = none) (f : F p = none) (a : ∀ n, n < st.length → al n ≠ p) (h : H p = some o) : RelS (B.gd p o) F al st H where
  sm := X.sm
  sg := fun b u e => by
    by_cases q : b = p
    · subst q
      have e : upd B.G b o b = some u := e
      rw [upd_same] at e; rw [← e]; exact h
    · have e : upd B.G p o b = some u := e
      rw [upd_ne q] at e; exact X.sg b u e
  fg := fun b u e => by
    by_cases q : b = p
    · subst q; exact f
    · have e : upd B.G p o b = some u := e
      rw [upd_ne q] at e; exact X.fg b u e
  ex := X.ex
  ss := X.ss
  cl := fun n c e => by
    obtain ⟨g', h'⟩ := X.cl n c e
    refine ⟨?_, h'⟩
    show upd B.G p o (al n) = none
    rw [upd_ne (a n (List.getElem?_eq_some_iff.mp e).1)]; exact g'
theorem Rel.guard (X : Rel B F al s σ H) (A : Apart B F al s σ p) (h : H p = some o) : Rel (B.gd p o) F al s σ H where
  toRelS := X.toRelS.guard A.g A.f A.a h
  le := X.le
  ev := X.ev
  eo := fun i c e => by
    obtain ⟨a, ha, g, hc, h1, h2⟩ := X.eo i c e
    refine ⟨a, ha, ?_, hc, h1, h2⟩
    show upd B.G p o a = none
    rw [upd_ne (fun z => A.e i c e (by rw [← z]; exact ha))]; exact g
theorem RelS.unguard (g : B.G p = none) (X : RelS (B.gd p o) F al st H) : RelS B F al st H ∧ H p = some o ∧ F p = none ∧ ∀ n, n < st.length → al n ≠ p := by
  have gp : (B.gd p o).G p = some o := upd_same
  have sub : ∀ b u, B.G b = some u → (B.gd p o).G b = some u := fun b u e => by
    show upd B.G p o b = some u
    rw [upd_ne (ne_of_none e g)]; exact e
  have an : ∀ n, n < st.length → al n ≠ p := fun n hn z => by
    have := (X.cl n _ (List.getElem?_eq_getElem hn)).1
    rw [z, gp] at this; cases this
  refine ⟨⟨X.sm, fun b u e => X.sg b u (sub b u e), fun b u e => X.fg b u (sub b u e), X.ex, X.ss, fun n c e => ?_⟩, X.sg p o gp, X.fg p o gp, an⟩
  obtain ⟨g', h'⟩ := X.cl n c e
  refine ⟨?_, h'⟩
  have g' : upd B.G p o (al n) = none := g'
  rw [upd_ne (an n (List.getElem?_eq_some_iff.mp e).1)] at g'
  exact g'
theorem Rel.unguard (g : B.G p = none) (X : Rel (B.gd p o) F al s σ H) : Rel B F al s σ H ∧ H p = some o ∧ Apart B F al s σ p := by
  obtain ⟨X', h, f, a⟩ := X.toRelS.unguard g
  have ap : ∀ (i : Nat) (c : Cell) (b : Addr), s.env[i]? = some (Sl.own c) → (B.gd p o).G b = none → σ[i]? = some (some (V.ref b)) → b ≠ p := fun i c b e gb _ z => by
    subst z
    have gb : upd B.G b o b = none := gb
    rw [upd_same] at gb; cases gb
  refine ⟨⟨X', X.le, X.ev, fun i c e => ?_⟩, h, g, f, a, fun i c e hp => ?_⟩
  · obtain ⟨a, ha, gb, hc, h1, h2⟩ := X.eo i c e
    refine ⟨a, ha, ?_, hc, h1, h2⟩
    have gb' : upd B.G p o a = none := gb
    rw [upd_ne (ap i c a e gb ha)] at gb'; exact gb'
  · obtain ⟨a, ha, gb, _⟩ := X.eo i c e
    exact ap i c a e gb ha (by rw [hp] at ha; cases ha; rfl)
theorem Okx.gd (h : Okx B Z) (g : B.G p = none) : Okx (B.gd p o) Z := fun C fs st' e F' al' H' d vs X => h C fs st' e F' al' H' d vs (RelS.unguard g X).1
/-! ### calls -/
abbrev ASp := List W → List Cell → (N → List Cell → Prop) → XA → Prop
def SpA (m : Nat) (asp : ASp) : Sp := fun vs H Q E => ∃ (B : Bs) (ws : List W) (st : List Cell) (A : N → List Cell → Prop) (Ea : XA), RelS B B.F B.al st H ∧ B.L = st.length ∧ WVs B.F B.al st.length ws vs ∧ ws.length = m ∧ asp ws st A Ea ∧
  (∀ n st' F' al' H' v, A n st' → RelS B F' al' st' H' → NV B F' al' st' H' n v → Q v H') ∧ ∀ C fs st', Ea C fs st' → EA B E C fs st'
/-- k stays as it is in a simplification: a thing of its type hangs on it -/
structure Tag {α : Type} (k : α) where
def callG (asp : ASp) (ws : List W) (st : List Cell) (k : N → List Cell → Prop) (ea : XA) (_ : Tag k) : Prop := asp ws st k ea
def aCall (ea : XA) (m : Nat) (asp : ASp) (t : AA) : AN := fun s A => t s fun ws s1 => ws.length = m ∧ callG asp ws s1.st (fun n st' => A n ⟨s1.env, st'⟩) ea ⟨⟩
open Classical in
theorem Rel.frame (X : Rel B F al s σ H) : ∃ G' : Hp, RelS ⟨G', F, al, s.st.length⟩ F al s.st H ∧ ∀ F' al' st' H', RelS ⟨G', F, al, s.st.length⟩ F' al' st' H' →
    Ext F F' al al' s.st.length st'.length ∧ Rel B F' al' ⟨s.env, st'⟩ σ H' ∧ ∀ n v, NV ⟨G', F, al, s.st.length⟩ F' al' st' H' n v → NVe B F' al' ⟨s.env, st'⟩ σ H' n v := by
  let G' : Hp := fun b => if F b = none ∧ ∀ n, n < s.st.length → al n ≠ b then H b else none
  have gin : ∀ b u, F b = none → (∀ n, n < s.st.length → al n ≠ b) → H b = some u → G' b = some u := fun b u f a e => by
    show (if F b = none ∧ ∀ n, n < s.st.length → al n ≠ b then H b else none) = some u
    rw [if_pos ⟨f, a⟩]; exact e
  have gout : ∀ b u, G' b = some u → F b = none ∧ (∀ n, n < s.st.length → al n ≠ b) ∧ H b = some u := fun b u e => by
    have e : (if F b = none ∧ ∀ n, n < s.st.length → al n ≠ b then H b else none) = some u := e
    split at e
    · rename_i q; exact ⟨q.1, q.2, e⟩
    · cases e
  have sub : ∀ b u, B.G b = some u → G' b = some u := fun b u e => gin b u (X.fg b u e) (fun n hn z => by
    have := (X.cl n _ (List.getElem?_eq_getElem hn)).1
    rw [z, e] at this; cases this) (X.sg b u e)
  refine ⟨G', ⟨X.sm, fun b u e => (gout b u e).2.2, fun b u e => (gout b u e).1, Ext.refl, X.ss, fun n c e => ⟨?_, (X.cl n c e).2⟩⟩, fun F' al' st' H' Y => ?_⟩
  · cases q : G' (al n) with
    | none => exact q
    | some u => exact ((gout _ _ q).2.1 n (List.getElem?_eq_some_iff.mp e).1 rfl).elim
  · have ex : Ext F F' al al' s.st.length st'.length := Y.ex
    have gn : ∀ b, G' b = none → B.G b = none := fun b e => by
      cases q : B.G b with
      | none => rfl
      | some u => rw [sub b u q] at e; cases e
    have own : ∀ (i : Nat) (c : Cell) (a : Addr), s.env[i]? = some (Sl.own c) → σ[i]? = some (some (V.ref a)) → ∃ o, H a = some o ∧ G' a = some o := fun i c a e ha => by
      obtain ⟨a', ha', _, ⟨f, o, ho, _⟩, h1, _⟩ := X.eo i c e
      rw [ha] at ha'; cases ha'
      exact ⟨o, ho, gin _ _ f h1 ho⟩
    have nw : ∀ n, n < st'.length → G' (al' n) = none := fun n hn => (Y.cl n _ (List.getElem?_eq_getElem hn)).1
    refine ⟨ex, ⟨⟨Y.sm, fun b u e => Y.sg b u (sub b u e), fun b u e => Y.fg b u (sub b u e), X.ex.trans ex, Y.ss, fun n c e => ⟨gn _ (Y.cl n c e).1, (Y.cl n c e).2⟩⟩, X.le, fun i w e => ?_, fun i c e => ?_⟩, fun n v nv => ⟨?_, fun c en i c' e => ?_⟩⟩
    · obtain ⟨v, h1, h2⟩ := X.ev i w e
      exact ⟨v, h1, h2.ext ex⟩
    · obtain ⟨a, ha, g, ⟨f, o, ho, hc⟩, h1, h2⟩ := X.eo i c e
      obtain ⟨o', ho', go⟩ := own i c a e ha
      rw [ho] at ho'; cases ho'
      refine ⟨a, ha, g, ⟨Y.fg a o go, o, Y.sg a o go, hc.ext ex⟩, fun n hn z => ?_, h2⟩
      have := nw n hn
      rw [z, go] at this; cases this
    · cases n with
      | w w => exact nv
      | new c =>
        obtain ⟨p, rfl, g, C, a⟩ := nv
        exact ⟨p, rfl, gn _ g, C, a⟩
    · subst en
      obtain ⟨p, rfl, g, C, a⟩ := nv
      intro hp
      obtain ⟨o', ho', go⟩ := own i c' p e hp
      have g : G' p = none := g
      rw [go] at g; cases g
theorem RN.call {m : Nat} {asp : ASp} {ta : TA} {t : AA} (ht : RA Z ta t) : RN Z (tCall (SpA m asp) [] Z.ec ta) (aCall Z.ea m asp t) := fun B hB F al s σ H Q A X h q =>
  ht B hB F al s σ H _ _ X h fun ws s1 F1 al1 H1 vs x1 X1 wvs h1 => by
    obtain ⟨G', Y, k⟩ := X1.frame
    refine ⟨⟨G', F1, al1, s1.st.length⟩, ws, s1.st, _, Z.ea, Y, rfl, by rw [List.append_nil]; exact wvs, h1.1, h1.2, fun n st' F' al' H' v z Y' nv => ?_, fun C fs st' z F' al' H' d vs' Y' => ?_⟩
    · obtain ⟨ex, X2, k2⟩ := k F' al' st' H' Y'
      exact q n ⟨s1.env, st'⟩ F' al' H' v (x1.trans ex) X2 (k2 n v nv) z
    · obtain ⟨ex, X2, k2⟩ := k F' al' st' H' Y'
      exact hB C fs st' z F' al' H' d vs' X2.toRelS
/-! ### statements -/
def aNext : ASt := fun D s => D.nx s
theorem RS.next : RS Z tNext aNext := fun B hB D A rd F al s σ H X h => rd.nx F al s σ H X h
def aSeq (t u : ASt) : ASt := fun D s => t { D with nx := u D } s
theorem RS.seq {t u : TS} {t' u' : ASt} (ht : RS Z t t') (hu : RS Z u u') : RS Z (tSeq t u) (aSeq t' u') := fun B hB D A rd F al s σ H X h =>
  ht B hB { D with nx := u D } { A with nx := u' A } ⟨fun F al s σ H X h => hu B hB D A rd F al s σ H X h, rd.rt, rd.bk, rd.ct⟩ F al s σ H X h
def put (i : Nat) (n : N) (s : AS) : AS := match n with
  | .w w => ⟨s.env.set i (.v w), s.st⟩
  | .new c => ⟨s.env.set i (.own c), s.st⟩
theorem Rel.put {n : N} (X : Rel B F al s σ H) (h : NVe B F al s σ H n v) : Rel B F al (put i n s) (σ.set i (some v)) H := by
  cases n with
  | w w => exact X.setV i h.1
  | new c =>
    obtain ⟨p, rfl, A, C⟩ := h.apart
    exact X.setN i A C
def aAsg (i : Nat) (a : AN) : ASt := fun D s => a s fun n s1 => D.nx (Zi.put i n s1)
theorem RS.asg {te : TE} {a : AN} {i : Nat} (ha : RN Z te a) : RS Z (tAsg te (gName i)) (aAsg i a) := fun B hB D A rd F al s σ H X h =>
  ha B hB F al s σ H _ _ X h fun n s1 F1 al1 H1 v x1 X1 nv h1 => rd.nx F1 al1 _ _ H1 (X1.put nv) h1
def aIf (c : AT) (t u : ASt) : ASt := fun D s => c s fun b s1 => if b = true then t D s1 else u D s1
theorem RS.ifs {c : TT} {t u : TS} {c' : AT} {t' u' : ASt} (hc : RT Z c c') (ht : RS Z t t') (hu : RS Z u u') : RS Z (tIfS c t u) (aIf c' t' u') := fun B hB D A rd F al s σ H X h =>
  hc B hB F al s σ H _ _ X h fun b s1 F1 al1 H1 x1 X1 h1 => by
    cases b with
    | true => exact ht B hB D A rd F1 al1 s1 σ H1 X1 h1
    | false => exact hu B hB D A rd F1 al1 s1 σ H1 X1 h1
def aDrop (a : AE) : ASt := fun D s => a s fun _ s1 => D.nx s1
theorem RS.drop {te : TE} {a : AE} (ha : RE Z te a) : RS Z (tDrop te) (aDrop a) := fun B hB D A rd F al s σ H X h =>
  ha B hB F al s σ H _ _ X h fun r s1 F1 al1 H1 v x1 X1 rv h1 => rd.nx F1 al1 s1 σ H1 X1 h1
/-- a call for its effect -/
def aDropN (a : AN) : ASt := fun D s => a s fun _ s1 => D.nx s1
theorem RS.dropN {te : TE} {a : AN} (ha : RN Z te a) : RS Z (tDrop te) (aDropN a) := fun B hB D A rd F al s σ H X h =>
  ha B hB F al s σ H _ _ X h fun r s1 F1 al1 H1 v x1 X1 rv h1 => rd.nx F1 al1 s1 σ H1 X1 h1
def aRet (a : AN) : ASt := fun D s => a s fun n s1 => D.rt n s1.st
theorem RS.ret {te : TE} {a : AN} (ha : RN Z te a) : RS Z (tRet te) (aRet a) := fun B hB D A rd F al s σ H X h =>
  ha B hB F al s σ H _ _ X h fun n s1 F1 al1 H1 v x1 X1 nv h1 => rd.rt F1 al1 s1.st H1 n v X1.toRelS nv.1 h1
def aRetN : ASt := fun D s => D.rt (.w (.d .non)) s.st
theorem RS.retN : RS Z tRetN aRetN := fun B hB D A rd F al s σ H X h => rd.rt F al s.st H (.w (.d .non)) _ X.toRelS Dv.non h
def aBreak : ASt := fun D s => D.bk s
theorem RS.brk : RS Z tBreak aBreak := fun B hB D A rd F al s σ H X h => rd.bk F al s σ H X h
def aCont : ASt := fun D s => D.ct s
theorem RS.cont : RS Z tCont aCont := fun B hB D A rd F al s σ H X h => rd.ct F al s σ H X h
def aAug (i : Nat) (f : Int → Int → Int) (b : AE) : ASt := fun D s => aVar i s fun r s0 => b s0 fun r' s1 => pk s1 r fun d => pk s1 r' fun e => match d, e with
  | .int j, .int k => D.nx ⟨s1.env.set i (.v (.d (.int (f j k)))), s1.st⟩
  | _, _ => False
theorem RS.aug {i : Nat} {f : Int → Int → Int} {te : TE} {b : AE} (hb : RE Z te b) : RS Z (tAug i te (ipI f)) (aAug i f b) := fun B hB D A rd F al s σ H X h => by
  refine RE.var (i := i) (Z := Z) B hB F al s σ H (fun x H => te σ H fun y H1 => ipI f x y H1 fun z H2 => D.nx (σ.set i (some z)) H2) _ X h ?_
  intro r s0 F0 al0 H0 v0 x0 X0 rv0 h0
  refine hb B hB F0 al0 s0 σ H0 _ _ X0 h0 ?_
  intro r1 s1 F1 al1 H1 v1 x1 X1 rv1 h1
  obtain ⟨d, e1, h1⟩ := pk_ok h1
  obtain ⟨e, e2, h1⟩ := pk_ok h1
  cases d <;> cases e <;> first | exact h1.elim | skip
  exact ⟨_, _, (X1.peek (rv0.ext x1) e1).intE, (X1.peek rv1 e2).intE, rd.nx F1 al1 _ _ H1 (X1.setV i (w := .d (.int _)) (Dv.int _)) h1⟩
/-- xs[i] = e -/
def aSetIx (e a b : AE) : ASt := fun D s => e s fun r s1 => toW r s1 fun w s2 => a s2 fun ra s3 => b s3 fun rb s4 => pk s4 rb fun d => match d, getC s4 ra, w with
  | .int k, some (.lst ds), .d x => match ixN ds.length k with
    | some j => D.nx (putC s4 ra (.lst (ds.set j x)))
    | none => False
  | _, _, _ => False
theorem RS.setIx {te to ti : TE} {e a b : AE} (he : RE Z te e) (ha : RE Z to a) (hb : RE Z ti b) : RS Z (tAsg te (gSub to ti rSetL)) (aSetIx e a b) := fun B hB D A rd F al s σ H X h => by
  refine he B hB F al s σ H _ _ X h ?_
  intro r s1 F1 al1 H1 v1 x1 X1 rv1 h1
  obtain ⟨F2, al2, w, s2, x2, X2, wv, h2⟩ := toW_ok X1 rv1 h1
  refine ha B hB F2 al2 s2 σ H1 _ _ X2 h2 ?_
  intro ra s3 F3 al3 H3 v3 x3 X3 rv3 h3
  refine hb B hB F3 al3 s3 σ H3 _ _ X3 h3 ?_
  intro rb s4 F4 al4 H4 v4 x4 X4 rv4 h4
  obtain ⟨d, e1, h5⟩ := pk_ok h4
  clear h4
  have tv := X4.peek rv4 e1
  have wv4 := (wv.ext x3).ext x4
  cases d <;> first | exact h5.elim | skip
  rename_i k
  cases z : getC s4 ra with
  | none => rw [z] at h5; exact h5.elim
  | some c =>
    rw [z] at h5
    cases c <;> first | exact h5.elim | skip
    rename_i ds
    cases w <;> first | exact h5.elim | skip
    rename_i x
    simp only at h5
    obtain ⟨p, o, rfl, ho, hc, pt⟩ := X4.getC (rv3.ext x4) z
    cases hc with | lst dv => ?_
    cases y : ixN ds.length k with
    | none => rw [y] at h5; exact h5.elim
    | some j =>
      rw [y] at h5
      obtain ⟨X5, _⟩ := pt _ _ (.lst (dv.set j (show Dv F4 _ x from wv4)))
      exact ⟨p, _, k, j, rfl, tv.intE, ho, by rw [dv.length]; exact y, rd.nx F4 al4 _ _ _ X5 h5⟩
/-! ### targets -/
inductive Tgt where | nm (i : Nat) | tp (ts : List Tgt)
mutual
def bindT : Tgt → D → List Sl → Option (List Sl)
  | .nm i, x, env => some (env.set i (.v (.d x)))
  | .tp ts, .tup ds, env => bindTs ts ds env
  | .tp _, _, _ => none
def bindTs : List Tgt → List D → List Sl → Option (List Sl)
  | [], [], env => some env
  | t :: ts, d :: ds, env => match bindT t d env with
    | some env' => bindTs ts ds env'
    | none => none
  | _, _, _ => none
end
mutual
def slots : Tgt → List Nat
  | .nm i => [i]
  | .tp ts => slotss ts
def slotss : List Tgt → List Nat
  | [] => []
  | t :: ts => slots t ++ slotss ts
end
def RG (g : TG) (t : Tgt) : Prop := ∀ (B : Bs) F al s σ H (Q : L2.St → Hp → Prop) v x env', Rel B F al s σ H → Dv F v x → bindT t x s.env = some env' →
  (∀ σ', Rel B F al ⟨env', s.st⟩ σ' H → (∀ ws, (∀ j ∈ slots t, j ∈ ws) → wipe σ' ws = wipe σ ws) → Q σ' H) → g v σ H Q
def RGs (g : TGs) (t : List Tgt) : Prop := ∀ (B : Bs) F al s σ H (Q : L2.St → Hp → Prop) vs xs env', Rel B F al s σ H → DvAll F vs xs → bindTs t xs s.env = some env' →
  (∀ σ', Rel B F al ⟨env', s.st⟩ σ' H → (∀ ws, (∀ j ∈ slotss t, j ∈ ws) → wipe σ' ws = wipe σ ws) → Q σ' H) → g vs σ H Q
theorem wipe_set {σ : L2.St} {i : Nat} {x : Option V} : ∀ {ws : List Nat}, i ∈ ws → wipe (σ.set i x) ws = wipe σ ws := by
  intro ws hi
  refine List.ext_getElem? fun j => ?_
  have W : ∀ τ : L2.St, ∀ ws : List Nat, (wipe τ ws)[j]? = if j ∈ ws then (if j < τ.length then some none else none) else τ[j]? := by
    intro τ ws
    by_cases hj : j ∈ ws
    · rw [if_pos hj]
      split
      · rename_i hl
        have hl' : j < (wipe τ ws).length := by rw [wipe_length]; exact hl
        cases q : (wipe τ ws)[j]? with
        | none => rw [List.getElem?_eq_none_iff] at q; omega
        | some y =>
          cases y with
          | none => rfl
          | some z => exact ((wipe_some q).2 hj).elim
      · rename_i hl
        rw [List.getElem?_eq_none_iff, wipe_length]; omega
    · rw [if_neg hj, wipe_out hj]
  rw [W, W]
  by_cases hj : j ∈ ws
  · rw [if_pos hj, if_pos hj, List.length_set]
  · rw [if_neg hj, if_neg hj, List.getElem?_set_ne (fun z : i = j => hj (z ▸ hi))]
theorem RG.nm {i : Nat} : RG (gName i) (.nm i) := fun B F al s σ H Q v x env' X d e q => by
  unfold bindT at e
  cases e
  exact q _ (X.setV i (w := .d x) d) fun ws h => wipe_set (h i (by simp [slots]))
theorem RGs.nil : RGs gNil [] := fun B F al s σ H Q vs xs env' X d e q => by
  cases xs with
  | nil => unfold bindTs at e; cases e; cases d; exact ⟨rfl, q σ X fun _ _ => rfl⟩
  | cons y ys => unfold bindTs at e; cases e
theorem RGs.cons {g : TG} {gs : TGs} {t : Tgt} {ts : List Tgt} (h : RG g t) (hs : RGs gs ts) : RGs (gCons g gs) (t :: ts) := fun B F al s σ H Q vs xs env' X d e q => by
  cases xs with
  | nil => unfold bindTs at e; cases e
  | cons y ys =>
    unfold bindTs at e
    cases d with | cons d1 d2 => ?_
    cases z : bindT t y s.env with
    | none => rw [z] at e; cases e
    | some env1 =>
      rw [z] at e
      refine ⟨_, _, rfl, h B F al s σ H _ _ y env1 X d1 z fun σ1 X1 w1 => ?_⟩
      refine hs B F al _ σ1 H _ _ ys env' X1 d2 e fun σ2 X2 w2 => q σ2 X2 fun ws hw => ?_
      rw [w2 ws fun j hj => hw j (by simp [slotss, hj]), w1 ws fun j hj => hw j (by simp [slotss, hj])]
theorem bindTs_len : ∀ {ts : List Tgt} {ds : List D} {env env' : List Sl}, bindTs ts ds env = some env' → ds.length = ts.length
  | [], [], _, _, _ => rfl
  | [], _ :: _, _, _, e => by unfold bindTs at e; cases e
  | _ :: _, [], _, _, e => by unfold bindTs at e; cases e
  | t :: ts, d :: ds, env, env', e => by
    unfold bindTs at e
    cases z : bindT t d env with
    | none => rw [z] at e; cases e
    | some env1 => rw [z] at e; rw [List.length_cons, List.length_cons, bindTs_len e]
theorem RG.tp {gs : TGs} {ts : List Tgt} {n : Nat} (h : RGs gs ts) (hn : n = ts.length) : RG (gTup K n gs) (.tp ts) := fun B F al s σ H Q v x env' X d e q => by
  cases x <;> first | (unfold bindT at e; cases e; done) | skip
  rename_i ds
  unfold bindT at e
  obtain ⟨a, xs, rfl, ea, dv⟩ := d.tupE
  exact ⟨a, xs, rfl, SqT.of (X.sm _ _ ea), by rw [dv.length, hn]; exact bindTs_len e, h B F al s σ H Q xs ds env' X dv e fun σ' X' w => q σ' X' fun ws hw => w ws (by simpa [slots] using hw)⟩
def aAsgT (t : Tgt) (a : AE) : ASt := fun D s => a s fun r s1 => toW r s1 fun w s2 => match w with
  | .d x => match bindT t x s2.env with
    | some env' => D.nx ⟨env', s2.st⟩
    | none => False
  | _ => False
theorem RS.asgT {te : TE} {a : AE} {g : TG} {t : Tgt} (ha : RE Z te a) (hg : RG g t) : RS Z (tAsg te g) (aAsgT t a) := fun B hB D A rd F al s σ H X h => by
  refine ha B hB F al s σ H _ _ X h ?_
  intro r s1 F1 al1 H1 v1 x1 X1 rv1 h1
  obtain ⟨F2, al2, w, s2, x2, X2, wv, h2⟩ := toW_ok X1 rv1 h1
  cases w <;> first | exact h2.elim | skip
  rename_i x
  simp only at h2
  cases z : bindT t x s2.env with
  | none => rw [z] at h2; exact h2.elim
  | some env' =>
    rw [z] at h2
    exact hg B F2 al2 s2 σ H1 _ _ x env' X2 wv z fun σ' X3 _ => rd.nx F2 al2 _ σ' H1 X3 h2
end
end Zi

set_option Elab.async false
set_option linter.all false
set_option maxRecDepth 100000
set_option maxHeartbeats 1000000
/-! Zm: what is walked, loops, comprehensions, dicts, defs. -/
namespace Zi
open PySem PySem.Spec PyProof.Rows L2 Ly
variable [Zi.Wd]
section
variable {Z : EX} {K : PySem.W.Frag} {B : Bs} {F F' F1 H H' : Hp} {al al' al1 : Nat → Addr} {s s' : AS} {σ σ' : L2.St} {v : V} {x : D} {r : R} {cc : Cell} {o : HO} {a p : Addr} {i n L L' : Nat} {ww : W} {st st' : List Cell}
/-! ### what is walked -/
abbrev AI := AS → (List D → AS → Prop) → Prop
def YOk (F H1 : Hp) (ds : List D) (i : Nat) (x : V) (H2 : Hp) : Prop :=
  (H2 = H1 ∧ ∃ d, ds[i]? = some d ∧ Dv F x d) ∨ ∃ T vs es, x = .ref T ∧ H1 T = none ∧ H2 = upd H1 T (.tup vs) ∧ ds[i]? = some (.tup es) ∧ DvAll F vs es
def RI (Z : EX) (ti : TI) (ai : AI) : Prop := ∀ B, Okx B Z → ∀ F al s σ H (R : It → Hp → Prop) (A : List D → AS → Prop), Rel B F al s σ H → ai s A →
  (∀ ds s' F' al' H' J G Y, Ext F F' al al' s.st.length s'.st.length → Rel B F' al' s' σ H' → Walk J ds.length G Y → (∀ H2, Same F' H2 → G H2) →
    (∀ i H1 x H2, i < ds.length → Same F' H1 → Y i H1 x H2 → YOk F' H1 ds i x H2) → A ds s' → R J H') → ti σ H R
def aIL (a : AE) : AI := fun s A => a s fun r s1 => toW r s1 fun w s2 => match w with
  | .d (.lst ds) => A ds s2
  | _ => False
theorem RI.list {te : TE} {a : AE} (ha : RE Z te a) : RI Z (iList K te) (aIL a) := fun B hB F al s σ H R A X h q => by
  refine ha B hB F al s σ H _ _ X h ?_
  intro r s1 F1 al1 H1 v1 x1 X1 rv1 h1
  obtain ⟨F2, al2, w, s2, x2, X2, wv, h2⟩ := toW_ok X1 rv1 h1
  cases w with
  | loc n => exact h2.elim
  | raw u φ => exact h2.elim
  | tp us => exact h2.elim
  | d x =>
    cases x <;> first | exact h2.elim | skip
    rename_i ds
    obtain ⟨a, xs, rfl, ea, dv⟩ := (show Dv F2 _ (.lst ds) from wv).lstE
    refine ⟨a, rfl, ⟨xs, SqL.of (X2.sm _ _ ea)⟩, q ds s2 F2 al2 H1 _ _ _ (x1.trans x2) X2 (dv.length ▸ walk_list) (fun H2 sm => SqL.of (sm _ _ ea)) (fun i H1 x H2 hi sm y => ?_) h2⟩
    obtain ⟨e1, e2⟩ := y
    exact .inl ⟨e1, dv.getV e2⟩
def aIT (a : AE) : AI := fun s A => a s fun r s1 => toW r s1 fun w s2 => match w with
  | .d (.tup ds) => A ds s2
  | _ => False
theorem RI.tup {te : TE} {a : AE} (ha : RE Z te a) : RI Z (iTup K te) (aIT a) := fun B hB F al s σ H R A X h q => by
  refine ha B hB F al s σ H _ _ X h ?_
  intro r s1 F1 al1 H1 v1 x1 X1 rv1 h1
  obtain ⟨F2, al2, w, s2, x2, X2, wv, h2⟩ := toW_ok X1 rv1 h1
  cases w with
  | loc n => exact h2.elim
  | raw u φ => exact h2.elim
  | tp us => exact h2.elim
  | d x =>
    cases x <;> first | exact h2.elim | skip
    rename_i ds
    obtain ⟨a, xs, rfl, ea, dv⟩ := (show Dv F2 _ (.tup ds) from wv).tupE
    refine ⟨a, rfl, ⟨xs, SqT.of (X2.sm _ _ ea)⟩, q ds s2 F2 al2 H1 _ _ _ (x1.trans x2) X2 (dv.length ▸ walk_tup) (fun H2 sm => SqT.of (sm _ _ ea)) (fun i H1 x H2 hi sm y => ?_) h2⟩
    obtain ⟨e1, e2⟩ := y
    exact .inl ⟨e1, dv.getV e2⟩
def upto (lo : Int) (n : Nat) : List D := (List.range n).map fun (i : Nat) => D.int (lo + (i : Int))
theorem upto_length {lo : Int} {n : Nat} : (upto lo n).length = n := by unfold upto; rw [List.length_map, List.length_range]
theorem upto_get {lo : Int} {n i : Nat} (h : i < n) : (upto lo n)[i]? = some (.int (lo + (i : Int))) := by
  unfold upto
  rw [List.getElem?_map, List.getElem?_range h]; rfl
def aIR1 (t : AR) : AI := fun s A => t s fun rs s1 => match pks s1 rs with
  | some [.int j] => (-(2 ^ 62) ≤ j ∧ j < 2 ^ 62) ∧ A (upto 0 j.toNat) s1
  | _ => False
theorem RI.rng1 {ta : TA} {t : AR} (ht : RR Z ta t) : RI Z (iRng1 ta) (aIR1 t) := fun B hB F al s σ H R A X h q => by
  refine ht B hB F al s σ H _ _ X h ?_
  intro rs s1 F1 al1 H1 vs x1 X1 rvs h1
  split at h1
  · rename_i j e
    have tv := X1.peeks rvs e
    cases tv with | cons t1 t => ?_
    cases t
    cases t1.intE
    refine ⟨j, rfl, h1.1.1, h1.1.2, q _ s1 F1 al1 H1 _ _ _ x1 X1 (by rw [upto_length]; exact walk_range) (fun _ _ => trivial) (fun i H1 x H2 hi sm y => ?_) h1.2⟩
    rw [upto_length] at hi
    obtain ⟨rfl, rfl⟩ := y
    exact .inl ⟨rfl, _, upto_get hi, .int _⟩
  · exact h1.elim
def aIR2 (t : AR) : AI := fun s A => t s fun rs s1 => match pks s1 rs with
  | some [.int i, .int j] => (-(2 ^ 62) ≤ i ∧ i < 2 ^ 62 ∧ -(2 ^ 62) ≤ j ∧ j < 2 ^ 62) ∧ A (upto i (j - i).toNat) s1
  | _ => False
theorem RI.rng2 {ta : TA} {t : AR} (ht : RR Z ta t) : RI Z (iRng2 ta) (aIR2 t) := fun B hB F al s σ H R A X h q => by
  refine ht B hB F al s σ H _ _ X h ?_
  intro rs s1 F1 al1 H1 vs x1 X1 rvs h1
  split at h1
  · rename_i i j e
    have tv := X1.peeks rvs e
    cases tv with | cons t1 t => ?_
    cases t with | cons t2 t => ?_
    cases t
    cases t1.intE
    cases t2.intE
    refine ⟨i, j, rfl, h1.1, q _ s1 F1 al1 H1 _ _ _ x1 X1 (by rw [upto_length]; exact walk_range) (fun _ _ => trivial) (fun i H1 x H2 hi sm y => ?_) h1.2⟩
    rw [upto_length] at hi
    obtain ⟨rfl, rfl⟩ := y
    exact .inl ⟨rfl, _, upto_get hi, .int _⟩
  · exact h1.elim
def enumD : Nat → List D → List D
  | _, [] => []
  | k, d :: ds => .tup [.int (k : Int), d] :: enumD (k + 1) ds
theorem enumD_length : ∀ {k : Nat} {ds : List D}, (enumD k ds).length = ds.length
  | _, [] => rfl
  | k, d :: ds => by rw [enumD, List.length_cons, List.length_cons, enumD_length]
theorem enumD_get : ∀ {k i : Nat} {ds : List D} {d : D}, ds[i]? = some d → (enumD k ds)[i]? = some (.tup [.int ((k + i : Nat) : Int), d])
  | _, _, [], _, h => by simp at h
  | k, 0, d :: ds, e, h => by simp at h; subst h; simp [enumD]
  | k, i + 1, d :: ds, e, h => by
    rw [enumD, List.getElem?_cons_succ, enumD_get (k := k + 1) (i := i) (by simpa using h)]
    rw [show k + 1 + i = k + (i + 1) by omega]
def aIE (t : AA) : AI := fun s A => t s fun ws s1 => match ws with
  | [.d (.lst ds)] => A (enumD 0 ds) s1
  | _ => False
theorem RI.enum {ta : TA} {t : AA} (ht : RA Z ta t) : RI Z (iEnum K ta) (aIE t) := fun B hB F al s σ H R A X h q => by
  refine ht B hB F al s σ H _ _ X h ?_
  intro ws s1 F1 al1 H1 vs x1 X1 wvs h1
  split at h1
  · rename_i ds
    cases wvs with | cons w1 t => ?_
    cases t
    obtain ⟨a, xs, rfl, ea, dv⟩ := (show Dv F1 _ (.lst ds) from w1).lstE
    refine ⟨a, xs, rfl, SqL.of (X1.sm _ _ ea), q _ s1 F1 al1 H1 _ _ _ x1 X1 (by rw [enumD_length, ← dv.length]; exact walk_enum) (fun H2 sm => SqL.of (sm _ _ ea)) (fun i H1 x H2 hi sm y => ?_) h1⟩
    obtain ⟨T, x', y', e1, e2, e3, e4, e5⟩ := y
    obtain ⟨d, e6, e7⟩ := dv.getV e5
    cases e4
    exact .inr ⟨T, _, _, e1, e2, e3, enumD_get e6, .cons (by rw [Nat.zero_add]; exact .int _) (.cons e7 .nil)⟩
  · exact h1.elim
def zipD : List D → List D → List D
  | d :: ds, e :: es => .tup [d, e] :: zipD ds es
  | _, _ => []
theorem zipD_length : ∀ {ds es : List D}, (zipD ds es).length = min ds.length es.length
  | [], _ => by simp [zipD]
  | _ :: _, [] => by simp [zipD]
  | d :: ds, e :: es => by rw [zipD, List.length_cons, zipD_length, List.length_cons, List.length_cons]; omega
theorem zipD_get : ∀ {i : Nat} {ds es : List D} {d e : D}, ds[i]? = some d → es[i]? = some e → (zipD ds es)[i]? = some (.tup [d, e])
  | _, [], _, _, _, h, _ => by simp at h
  | _, _ :: _, [], _, _, _, h => by simp at h
  | 0, d :: ds, e :: es, _, _, h1, h2 => by simp at h1 h2; subst h1 h2; simp [zipD]
  | i + 1, d :: ds, e :: es, _, _, h1, h2 => by
    rw [zipD, List.getElem?_cons_succ]
    exact zipD_get (by simpa using h1) (by simpa using h2)
def aIZ (t : AA) : AI := fun s A => t s fun ws s1 => match ws with
  | [.d (.lst ds), .d (.lst es)] => A (zipD ds es) s1
  | _ => False
theorem RI.zip {ta : TA} {t : AA} (ht : RA Z ta t) : RI Z (iZip K ta) (aIZ t) := fun B hB F al s σ H R A X h q => by
  refine ht B hB F al s σ H _ _ X h ?_
  intro ws s1 F1 al1 H1 vs x1 X1 wvs h1
  split at h1
  · rename_i ds es
    cases wvs with | cons w1 t => ?_
    cases t with | cons w2 t => ?_
    cases t
    obtain ⟨a, xs, rfl, ea, dv⟩ := (show Dv F1 _ (.lst ds) from w1).lstE
    obtain ⟨b, ys, rfl, eb, dw⟩ := (show Dv F1 _ (.lst es) from w2).lstE
    refine ⟨a, b, xs, ys, rfl, SqL.of (X1.sm _ _ ea), SqL.of (X1.sm _ _ eb), q _ s1 F1 al1 H1 _ _ _ x1 X1 (walk_zip (by rw [zipD_length, dv.length, dw.length])) (fun H2 sm => ⟨SqL.of (sm _ _ ea), SqL.of (sm _ _ eb)⟩) (fun i H1 x H2 hi sm y => ?_) h1⟩
    obtain ⟨T, x', y', e1, e2, e3, e4, e5⟩ := y
    obtain ⟨d, e6, e7⟩ := dv.getV e4
    obtain ⟨e, e8, e9⟩ := dw.getV e5
    exact .inr ⟨T, _, _, e1, e2, e3, zipD_get e6 e8, .cons e7 (.cons e9 .nil)⟩
  · exact h1.elim
def strD (z : Str) : List D := z.cps.toList.map fun c => .str ⟨#[c]⟩
def aIS (a : AE) : AI := fun s A => a s fun r s1 => pk s1 r fun d => match d with
  | .str z => A (strD z) s1
  | _ => False
theorem RI.str {te : TE} {a : AE} (ha : RE Z te a) : RI Z (iStr te) (aIS a) := fun B hB F al s σ H R A X h q => by
  refine ha B hB F al s σ H _ _ X h ?_
  intro r s1 F1 al1 H1 v1 x1 X1 rv1 h1
  obtain ⟨d, e1, h2⟩ := pk_ok h1
  have tv := X1.peek rv1 e1
  cases d <;> first | exact h2.elim | skip
  rename_i z
  have hl : (strD z).length = z.cps.size := by unfold strD; rw [List.length_map, Array.length_toList]
  refine ⟨z, tv.strE, q (strD z) s1 F1 al1 H1 _ _ _ x1 X1 (by rw [hl]; exact walk_str) (fun H2 sm => trivial) (fun i H1 x H2 hi sm y => ?_) h2⟩
  obtain ⟨e1, c, e2, rfl⟩ := y
  refine .inl ⟨e1, .str ⟨#[c]⟩, ?_, .str _⟩
  unfold strD
  rw [List.getElem?_map, Array.getElem?_toList, e2]; rfl
/-! ### loops -/
def forGo (t : Tgt) (b : ASt) (E : AEnds) : List D → AS → Prop
  | [], s => E.nx s
  | d :: ds, s => match bindT t d s.env with
    | some env' => b ⟨forGo t b E ds, E.rt, E.nx, forGo t b E ds⟩ ⟨env', s.st⟩
    | none => False
def forG (t : Tgt) (b : ASt) (E : AEnds) (ds : List D) (s : AS) (_ : Tag E) : Prop := forGo t b E ds s
def aFor (ai : AI) (t : Tgt) (b : ASt) : ASt := fun D s => ai s fun ds s1 => forG t b D ds s1 ⟨⟩
/-- an item comes: the heap may have a new tuple, which is frozen -/
theorem Rel.item {ds : List D} {F1 : Hp} {H1 H2 : Hp} {y : V} (X : Rel B F' al s σ H1) (f : Same F1 F') (h : YOk F1 H1 ds i y H2) : ∃ F2 d, Ext F' F2 al al s.st.length s.st.length ∧ Rel B F2 al s σ H2 ∧ ds[i]? = some d ∧ Dv F2 y d ∧ ∀ b u, H1 b = some u → H2 b = some u := by
  rcases h with ⟨rfl, d, e1, e2⟩ | ⟨T, vs, es, rfl, n, rfl, e1, e2⟩
  · exact ⟨F', d, Ext.refl, X, e1, e2.mono f, fun _ _ e => e⟩
  · obtain ⟨F2, x2, X2, d2⟩ := X.newT n (e2.mono f)
    exact ⟨F2, _, x2, X2, e1, d2, fun b u e => by rw [upd_ne (ne_of_none e n)]; exact e⟩
theorem RD.re {D : Ends} {A : AEnds} (rd : RD B D A) (E : Ext B.F F B.al al B.L L) : RD (B.re F al L) D A :=
  ⟨fun F' al' s' σ' H' X h => rd.nx F' al' s' σ' H' (X.un E) h, fun F' al' st' H' n v X nv h => rd.rt F' al' st' H' n v (X.un E) nv h, fun F' al' s' σ' H' X h => rd.bk F' al' s' σ' H' (X.un E) h, fun F' al' s' σ' H' X h => rd.ct F' al' s' σ' H' (X.un E) h⟩
theorem RS.for {ti : TI} {ai : AI} {g : TG} {t : Tgt} {tb : TS} {b : ASt} (hi : RI Z ti ai) (hg : RG g t) (hb : RS Z tb b) : RS Z (tFor ti g tb) (aFor ai t b) := fun B hB D A rd F al s σ H X h => by
  refine hi B hB F al s σ H _ _ X h ?_
  intro ds s1 F1 al1 H1 J G Y x1 X1 wk hG hY h1
  have hB1 := hB.re X1.ex
  have rd1 := rd.re X1.ex
  generalize hB' : B.re F1 al1 s1.st.length = B1 at hB1 rd1
  have X1' : Rel B1 F1 al1 s1 σ H1 := by rw [← hB']; exact X1.re
  have BF : B1.F = F1 := by rw [← hB']; rfl
  refine for_it wk (fun i σ' H' => ∃ F' al' s', Rel B1 F' al' s' σ' H' ∧ forGo t b A (ds.drop i) s') ⟨F1, al1, s1, X1', h1⟩ ?_ ?_ ?_
  · rintro i σ' H' _ ⟨F', al', s', X', _⟩
    exact hG H' fun a o e => X'.sm a o (X'.ex.ff a o (by rw [BF]; exact e))
  · rintro i y σ' H' H2 hlt ⟨F', al', s', X', h'⟩ yl
    obtain ⟨F2, d, x2, X2, e1, dv, _⟩ := X'.item (F1 := F1) (fun a o e => X'.ex.ff a o (by rw [BF]; exact e)) (hY i H' y H2 hlt (fun a o e => X'.sm a o (X'.ex.ff a o (by rw [BF]; exact e))) yl)
    have hd : ds.drop i = d :: ds.drop (i + 1) := by
      obtain ⟨hl, e⟩ := List.getElem?_eq_some_iff.mp e1
      rw [← e]; exact List.drop_eq_getElem_cons hl
    rw [hd] at h'
    unfold forGo at h'
    cases z : bindT t d s'.env with
    | none => rw [z] at h'; exact h'.elim
    | some env' =>
      rw [z] at h'
      refine hg B1 F2 al' s' σ' H2 _ _ d env' X2 dv z fun σ3 X3 _ => ?_
      refine hb B1 hB1 _ ⟨forGo t b A (ds.drop (i + 1)), A.rt, A.nx, forGo t b A (ds.drop (i + 1))⟩ ?rd F2 al' _ σ3 H2 X3 h'
      refine ⟨?_, rd1.rt, rd1.nx, ?_⟩
      · intro F4 al4 s4 σ4 H4 X4 h4
        exact ⟨F4, al4, s4, X4, h4⟩
      · intro F4 al4 s4 σ4 H4 X4 h4
        exact ⟨F4, al4, s4, X4, h4⟩
  · rintro σ' H' ⟨F', al', s', X', h'⟩
    rw [List.drop_length] at h'
    exact rd1.nx F' al' s' σ' H' X' h'
def whN (c : AT) (b : ASt) (D : AEnds) : Nat → AS → Prop
  | 0, _ => False
  | m + 1, s => c s fun k s1 => if k = true then b ⟨whN c b D m, D.rt, D.nx, whN c b D m⟩ s1 else D.nx s1
def aWhile (c : AT) (b : ASt) : ASt := fun D s => ∃ m, whN c b D m s
def whileG (c : AT) (b : ASt) (E : AEnds) (s : AS) (_ : Tag E) : Prop := aWhile c b E s
def aWhileG (c : AT) (b : ASt) : ASt := fun D s => whileG c b D s ⟨⟩
theorem RS.while {c : TT} {c' : AT} {tb : TS} {b : ASt} (hc : RT Z c c') (hb : RS Z tb b) : RS Z (tWhile c tb) (aWhile c' b) := fun B hB D A rd F al s σ H X h => by
  obtain ⟨m, hm⟩ := h
  refine ⟨fun m σ' H' => ∃ F' al' s', Rel B F' al' s' σ' H' ∧ whN c' b A m s', ⟨m, F, al, s, X, hm⟩, ?_⟩
  rintro m σ' H' ⟨F', al', s', X', h'⟩
  cases m with
  | zero => exact h'.elim
  | succ m =>
    refine hc B hB F' al' s' σ' H' _ _ X' h' ?_
    intro k s1 F1 al1 H1 x1 X1 h1
    cases k with
    | false => exact rd.nx F1 al1 s1 σ' H1 X1 h1
    | true =>
      refine ⟨fun σ3 H3 => ∃ F3 al3 s3, Rel B F3 al3 s3 σ3 H3 ∧ whN c' b A m s3, fun σ3 H3 h3 => ⟨m, Nat.lt_succ_self m, h3⟩, ?_⟩
      refine hb B hB _ ⟨whN c' b A m, A.rt, A.nx, whN c' b A m⟩ ?rd F1 al1 s1 σ' H1 X1 h1
      refine ⟨?_, rd.rt, rd.nx, ?_⟩
      · intro F4 al4 s4 σ4 H4 X4 h4
        exact ⟨F4, al4, s4, X4, h4⟩
      · intro F4 al4 s4 σ4 H4 X4 h4
        exact ⟨F4, al4, s4, X4, h4⟩
/-! ### comprehensions -/
def wipeE : List Sl → List Nat → List Sl
  | env, [] => env
  | env, v :: vs => (wipeE env vs).set v .no
/-- the slots of a comprehension as they were -/
def backE (env0 : List Sl) : List Sl → List Nat → List Sl
  | env, [] => env
  | env, v :: vs => (backE env0 env vs).set v (match env0[v]? with
    | some (.v w) => .v w
    | _ => .no)
theorem wipeE_len {env : List Sl} : ∀ {vs : List Nat}, (wipeE env vs).length = env.length
  | [] => rfl
  | v :: vs => by rw [wipeE, List.length_set, wipeE_len]
theorem wipeE_get {env : List Sl} {j : Nat} {e : Sl} : ∀ {vs : List Nat}, (wipeE env vs)[j]? = some e → e = .no ∨ (j ∉ vs ∧ env[j]? = some e)
  | [], h => .inr ⟨by simp, h⟩
  | v :: vs, h => by
    unfold wipeE at h
    by_cases z : v = j
    · subst z; exact .inl (set_self h).2.symm
    · rw [List.getElem?_set_ne z] at h
      rcases wipeE_get h with q | ⟨q1, q2⟩
      · exact .inl q
      · exact .inr ⟨by simp [q1, Ne.symm z], q2⟩
theorem backE_len {env0 env : List Sl} : ∀ {vs : List Nat}, (backE env0 env vs).length = env.length
  | [] => rfl
  | v :: vs => by rw [backE, List.length_set, backE_len]
theorem backE_get {env0 env : List Sl} {j : Nat} {e : Sl} : ∀ {vs : List Nat}, (backE env0 env vs)[j]? = some e → e = .no ∨ (j ∉ vs ∧ env[j]? = some e) ∨ ∃ w, e = .v w ∧ env0[j]? = some (.v w)
  | [], h => .inr (.inl ⟨by simp, h⟩)
  | v :: vs, h => by
    unfold backE at h
    by_cases z : v = j
    · subst z
      have e' := (set_self h).2
      cases q : env0[v]? with
      | none => rw [q] at e'; exact .inl e'.symm
      | some y =>
        rw [q] at e'
        cases y with
        | no => exact .inl e'.symm
        | own c => exact .inl e'.symm
        | v w => exact .inr (.inr ⟨w, e'.symm, rfl⟩)
    · rw [List.getElem?_set_ne z] at h
      rcases backE_get h with q | ⟨q1, q2⟩ | q
      · exact .inl q
      · exact .inr (.inl ⟨by simp [q1, Ne.symm z], q2⟩)
      · exact .inr (.inr q)
/-- fewer slots are known -/
theorem Rel.sub {env' : List Sl} {τ : L2.St} (X : Rel B F al s σ H) (le : env'.length ≤ τ.length) (k : ∀ (j : Nat) (e : Sl), env'[j]? = some e → e = .no ∨ (s.env[j]? = some e ∧ τ[j]? = σ[j]?) ∨ ∃ w, e = .v w ∧ ∃ v, τ[j]? = some (some v) ∧ WV F al s.st.length w v) : Rel B F al ⟨env', s.st⟩ τ H where
  toRelS := X.toRelS
  le := le
  ev := fun j w e => by
    rcases k j _ e with q | ⟨q1, q2⟩ | ⟨w', q1, v, q2, q3⟩
    · cases q
    · obtain ⟨v, h1, h2⟩ := X.ev j w q1
      exact ⟨v, by rw [q2]; exact h1, h2⟩
    · cases q1; exact ⟨v, q2, q3⟩
  eo := fun j c e => by
    have own : ∀ (j : Nat) (c : Cell), env'[j]? = some (.own c) → s.env[j]? = some (.own c) ∧ τ[j]? = σ[j]? := fun j c e => by
      rcases k j _ e with q | q | ⟨w', q1, _⟩
      · cases q
      · exact q
      · cases q1
    obtain ⟨q1, q2⟩ := own j c e
    obtain ⟨a, ha, g, hc, h1, h2⟩ := X.eo j c q1
    refine ⟨a, by rw [q2]; exact ha, g, hc, h1, fun j' c' e' hj => ?_⟩
    obtain ⟨q3, q4⟩ := own j' c' e'
    exact h2 j' c' q3 (by rw [← q4]; exact hj)
theorem Rel.wipe {vs : List Nat} (X : Rel B F al s σ H) : Rel B F al ⟨wipeE s.env vs, s.st⟩ (L2.wipe σ vs) H :=
  X.sub (by rw [wipeE_len, wipe_length]; exact X.le) fun j e h => by
    rcases wipeE_get h with q | ⟨q1, q2⟩
    · exact .inl q
    · exact .inr (.inl ⟨q2, wipe_out q1⟩)
theorem wipe_wipe {σ : L2.St} {vs : List Nat} : L2.wipe (L2.wipe σ vs) vs = L2.wipe σ vs := by
  refine List.ext_getElem? fun j => ?_
  by_cases hj : j ∈ vs
  · by_cases hl : j < σ.length
    · have g : ∀ τ : L2.St, τ.length = σ.length → (L2.wipe τ vs)[j]? = some none := fun τ hτ => by
        cases q : (L2.wipe τ vs)[j]? with
        | none => rw [List.getElem?_eq_none_iff, wipe_length] at q; omega
        | some y => cases y with
          | none => rfl
          | some z => exact ((wipe_some q).2 hj).elim
      rw [g _ (wipe_length σ vs), g _ rfl]
    · rw [List.getElem?_eq_none_iff.mpr (by rw [wipe_length, wipe_length]; omega), List.getElem?_eq_none_iff.mpr (by rw [wipe_length]; omega)]
  · rw [wipe_out hj]
def lcGo (t : Tgt) (c : AT) (e : AE) (vs : List Nat) (k : List D → AS → Prop) : List D → AS → List D → Prop
  | [], s, acc => k acc s
  | d :: ds, s, acc => match bindT t d s.env with
    | some env' => c ⟨env', s.st⟩ fun b s1 => if b = true then e s1 fun r s2 => toW r s2 fun w s3 => match w with
        | .d x => acc.length < sizeLine ∧ lcGo t c e vs k ds ⟨wipeE s3.env vs, s3.st⟩ (acc ++ [x])
        | _ => False
      else lcGo t c e vs k ds ⟨wipeE s1.env vs, s1.st⟩ acc
    | none => False
def lcG (t : Tgt) (c : AT) (e : AE) (vs : List Nat) (k : List D → AS → Prop) (ds : List D) (s : AS) (acc : List D) (_ : Tag k) : Prop := lcGo t c e vs k ds s acc
def aLc (ai : AI) (t : Tgt) (c : AT) (e : AE) (vs : List Nat) : AN := fun s A => ai s fun ds s1 => lcG t c e vs (fun zs s2 => A (.new (.lst zs)) ⟨backE s1.env s2.env vs, s2.st⟩) ds ⟨wipeE s1.env vs, s1.st⟩ [] ⟨⟩
theorem RN.lc {ti : TI} {ai : AI} {g : TG} {t : Tgt} {tt : TT} {c : AT} {te : TE} {e : AE} {vs : List Nat} (hi : RI Z ti ai) (hg : RG g t) (hc : RT Z tt c) (he : RE Z te e) (hv : ∀ j ∈ slots t, j ∈ vs) : RN Z (tLc ti g tt te vs) (aLc ai t c e vs) := fun B hB F al s σ H Q A X h q => by
  refine hi B hB F al s σ H _ _ X h ?_
  intro ds s1 F1 al1 H1 J G Y x1 X1 wk hG hY h1 Dl nD
  have hB1 := hB.re X1.ex
  have X1' := X1.re
  have un : ∀ {F' al' s' σ' H'}, Rel (B.re F1 al1 s1.st.length) F' al' s' σ' H' → Rel B F' al' s' σ' H' := fun X' => X'.un X1.ex
  generalize hB' : B.re F1 al1 s1.st.length = B1 at hB1 X1' un
  have BF : B1.F = F1 := by rw [← hB']; rfl
  have BA : B1.al = al1 := by rw [← hB']; rfl
  have BL : B1.L = s1.st.length := by rw [← hB']; rfl
  have ap0 := X1'.apart nD
  refine lc_it wk (fun i H' => ∃ F' al' s' vacc acc, Rel B1 F' al' s' (L2.wipe σ vs) H' ∧ Apart B1 F' al' s' (L2.wipe σ vs) Dl ∧ H' Dl = some (.lst vacc) ∧ DvAll F' vacc acc ∧ lcGo t c e vs (fun zs s2 => A (.new (.lst zs)) ⟨backE s1.env s2.env vs, s2.st⟩) (ds.drop i) s' acc) ?_ ?_ ?_ ?_
  · refine ⟨F1, al1, ⟨wipeE s1.env vs, s1.st⟩, [], [], (X1'.new nD).wipe, ?_, upd_same, .nil, h1⟩
    refine ⟨ap0.g, ap0.f, ap0.a, fun j c' ej hj => ?_⟩
    rcases wipeE_get ej with z | ⟨z1, z2⟩
    · cases z
    · rw [wipe_out z1] at hj; exact ap0.e j c' z2 hj
  · rintro i H' _ ⟨F', al', s', vacc, acc, X', _⟩
    exact hG H' fun a o e => X'.sm a o (X'.ex.ff a o (by rw [BF]; exact e))
  · rintro i y H' H2 hlt ⟨F', al', s', vacc, acc, X', ap, hD, dva, h'⟩ yl
    have f1 : Same F1 F' := fun a o e => X'.ex.ff a o (by rw [BF]; exact e)
    have Xg := X'.guard ap hD
    have hBg := hB1.gd (o := .lst vacc) ap.g
    obtain ⟨F2, d, x2, X2, e1, dv, k2⟩ := Xg.item (F1 := F1) f1 (hY i H' y H2 hlt (fun a o e => X'.sm a o (f1 a o e)) yl)
    have hd : ds.drop i = d :: ds.drop (i + 1) := by
      obtain ⟨hl, e⟩ := List.getElem?_eq_some_iff.mp e1
      rw [← e]; exact List.drop_eq_getElem_cons hl
    rw [hd] at h'
    unfold lcGo at h'
    cases z : bindT t d s'.env with
    | none => rw [z] at h'; exact h'.elim
    | some env' =>
      rw [z] at h'
      refine hg _ F2 al' s' _ H2 _ _ d env' X2 dv z fun σ3 X3 w3 => ?_
      have w3' : L2.wipe σ3 vs = L2.wipe σ vs := by
        rw [w3 vs hv]
        exact wipe_wipe
      refine ⟨w3', ?_⟩
      refine hc _ hBg F2 al' _ σ3 H2 _ _ X3 h' ?_
      intro b s4 F4 al4 H4 x4 X4 h4
      cases b with
      | false =>
        obtain ⟨X5, hD5, ap5⟩ := X4.unguard ap.g
        have X6 := X5.wipe (vs := vs)
        rw [w3'] at X6
        refine ⟨F4, al4, _, vacc, acc, X6, ⟨ap5.g, ap5.f, ap5.a, fun j c' ej hj => ?_⟩, hD5, dva.mono fun a o e => x4.ff a o (x2.ff a o e), h4⟩
        rcases wipeE_get ej with z | ⟨z1, z2⟩
        · cases z
        · rw [← w3', wipe_out z1] at hj; exact ap5.e j c' z2 hj
      | true =>
        refine he _ hBg F4 al4 s4 σ3 H4 _ _ X4 h4 ?_
        intro r s5 F5 al5 H5 v5 x5 X5 rv5 h5
        obtain ⟨F6, al6, w, s6, x6, X6, wv, h6⟩ := toW_ok X5 rv5 h5
        cases w with
        | loc n => exact h6.elim
        | raw u φ => exact h6.elim
        | tp us => exact h6.elim
        | d zz =>
          obtain ⟨X7, hD7, ap7⟩ := X6.unguard ap.g
          have dva6 : DvAll F6 vacc acc := dva.mono fun a o e => x6.ff a o (x5.ff a o (x4.ff a o (x2.ff a o e)))
          refine ⟨vacc, hD7, by rw [dva6.length]; exact h6.1, F6, al6, ⟨wipeE s6.env vs, s6.st⟩, vacc ++ [v5], acc ++ [zz], ?_, ⟨ap7.g, ap7.f, ap7.a, fun j c' ej hj => ?_⟩, upd_same, dva6.append (.cons wv .nil), h6.2⟩
          · have X8 := X7.heap (H' := upd H5 Dl (.lst (vacc ++ [v5]))) fun b u e hb => by
              rw [upd_ne]
              · exact e
              · rintro rfl
                rcases hb with z | z | ⟨n, z1, z2⟩ | ⟨j, c', z1, z2⟩
                · rw [ap7.g] at z; cases z
                · rw [ap7.f] at z; cases z
                · exact ap7.a n z1 z2
                · exact ap7.e j c' z1 z2
            have X9 := X8.wipe (vs := vs)
            rw [w3'] at X9
            exact X9
          · rcases wipeE_get ej with z | ⟨z1, z2⟩
            · cases z
            · rw [← w3', wipe_out z1] at hj; exact ap7.e j c' z2 hj
  · rintro H' ⟨F', al', s', vacc, acc, X', ap, hD, dva, h'⟩
    rw [List.drop_length] at h'
    unfold lcGo at h'
    have ex1 : Ext F1 F' al1 al' s1.st.length s'.st.length := by
      have := X'.ex
      rw [BF, BA, BL] at this
      exact this
    have lenE : ∀ j e, (backE s1.env s'.env vs)[j]? = some e → e = .no ∨ (j ∉ vs ∧ s'.env[j]? = some e ∧ σ[j]? = (L2.wipe σ vs)[j]?) ∨ ∃ w, e = .v w ∧ s1.env[j]? = some (.v w) := fun j e hj => by
      rcases backE_get hj with z | ⟨z1, z2⟩ | z
      · exact .inl z
      · exact .inr (.inl ⟨z1, z2, (wipe_out z1).symm⟩)
      · exact .inr (.inr z)
    have X2 : Rel B1 F' al' ⟨backE s1.env s'.env vs, s'.st⟩ σ H' := X'.sub (by rw [backE_len, ← wipe_length σ vs]; exact X'.le) fun j e hj => by
      rcases lenE j e hj with z | ⟨z1, z2, z3⟩ | ⟨w, z1, z2⟩
      · exact .inl z
      · exact .inr (.inl ⟨z2, z3⟩)
      · obtain ⟨v, h1, h2⟩ := X1.ev j w z2
        exact .inr (.inr ⟨w, z1, v, h1, h2.ext ex1⟩)
    refine q (.new (.lst acc)) ⟨backE s1.env s'.env vs, s'.st⟩ F' al' H' _ (x1.trans ex1) (un X2) ?_ h'
    refine ⟨⟨Dl, rfl, ?_, ⟨ap.f, _, hD, .lst dva⟩, ap.a⟩, fun c' ec j c'' ej hj => ?_⟩
    · have := ap.g; rw [← hB'] at this; exact this
    · rcases lenE j _ ej with z | ⟨z1, z2, z3⟩ | ⟨w, z1, z2⟩
      · cases z
      · exact ap.e j c'' z2 (by rw [← z3]; exact hj)
      · cases z1
end
end Zi

set_option Elab.async false
set_option linter.all false
set_option maxRecDepth 100000
set_option maxHeartbeats 1000000
/-! Zn: dicts, further operators, defs. -/
namespace Zi
open PySem PySem.Spec PyProof.Rows L2 Ly
variable [Zi.Wd]
section
variable {Z : EX} {K : PySem.W.Frag} {B : Bs} {F F' F1 H H' : Hp} {al al' al1 : Nat → Addr} {s s' : AS} {σ σ' : L2.St} {v : V} {x : D} {r : R} {cc : Cell} {o : HO} {a p : Addr} {i n L L' : Nat} {ww : W} {st st' : List Cell}
/-! ### operators -/
def oAdd : O2 := oI fun i j => .int (i + j)
def oSub : O2 := oI fun i j => .int (i - j)
def oLt : O2 := oI fun i j => .bl (decide (i < j))
def oLe : O2 := oI fun i j => .bl (decide (i ≤ j))
def oGt : O2 := oI fun i j => .bl (decide (j < i))
def oGe : O2 := oI fun i j => .bl (decide (j ≤ i))
theorem oAdd_ok : OR2 (rI0 fun i j => .int (i + j)) oAdd := oI_ok fun _ _ _ => .int _
theorem oSub_ok : OR2 (rI0 fun i j => .int (i - j)) oSub := oI_ok fun _ _ _ => .int _
theorem oLt_ok : OR2 (rI0 fun i j => .bl (decide (i < j))) oLt := oI_ok fun _ _ _ => .bl _
theorem oLe_ok : OR2 (rI0 fun i j => .bl (decide (i ≤ j))) oLe := oI_ok fun _ _ _ => .bl _
theorem oGt_ok : OR2 (rI0 fun i j => .bl (decide (j < i))) oGt := oI_ok fun _ _ _ => .bl _
theorem oGe_ok : OR2 (rI0 fun i j => .bl (decide (j ≤ i))) oGe := oI_ok fun _ _ _ => .bl _
def oMul : O2 := oIc CMul fun i j => .int (i * j)
theorem oMul_ok : OR2 (rI CMul fun i j => .int (i * j)) oMul := oIc_ok fun _ _ _ => .int _
def oMulW : O2 := oIc CMulW fun i j => .int (i * j)
theorem oMulW_ok : OR2 (rI CMulW fun i j => .int (i * j)) oMulW := oIc_ok fun _ _ _ => .int _
def oMod : O2 := oIc (fun _ j => 0 < j) fun i j => .int (i % j)
theorem oMod_ok : OR2 (rI (fun _ j => 0 < j) fun i j => .int (i % j)) oMod := oIc_ok fun _ _ _ => .int _
def oDiv : O2 := oIc CDiv fun i j => .int (i / j)
theorem oDiv_ok : OR2 (rI CDiv fun i j => .int (i / j)) oDiv := oIc_ok fun _ _ _ => .int _
def oDivW : O2 := oIc CDivW fun i j => .int (i / j)
theorem oDivW_ok : OR2 (rI CDivW fun i j => .int (i / j)) oDivW := oIc_ok fun _ _ _ => .int _
def oPow : O2 := oIc CPowW fun i j => .int (i ^ j.toNat)
theorem oPow_ok : OR2 (rI CPowW fun i j => .int (i ^ j.toNat)) oPow := oIc_ok fun _ _ _ => .int _
def oAddS : O2 := fun d e A => match d, e with
  | .str i, .str j => i.length + j.length ≤ sizeLine ∧ A (.str (i ++ j))
  | _, _ => False
theorem oAddS_ok : OR2 (fun x y H Q => ∃ i j, x = V.str i ∧ y = V.str j ∧ i.length + j.length ≤ sizeLine ∧ Q (V.str (i ++ j)) H) oAddS := fun F H x y d e Q A sm hx hy h q => by
  cases d <;> cases e <;> first | exact h.elim | skip
  exact ⟨_, _, hx.strE, hy.strE, h.1, q _ _ (.str _) h.2⟩
def oInS : O2 := fun d e A => match d, e with
  | .str i, .str j => A (.bl (!(Builtin.Str.occurrences j i 0 j.length 1).isEmpty))
  | _, _ => False
theorem oInS_ok : OR2 (fun x y H Q => ∃ i j, x = V.str i ∧ y = V.str j ∧ Q (V.bl !(Builtin.Str.occurrences j i 0 j.length 1).isEmpty) H) oInS := fun F H x y d e Q A sm hx hy h q => by
  cases d <;> cases e <;> first | exact h.elim | skip
  exact ⟨_, _, hx.strE, hy.strE, q _ _ (.bl _) h⟩
def isNon : D → Bool
  | .non => true
  | _ => false
theorem isNon_dec {v : V} {d : D} (h : Tv F H v d) : decide (v = .non) = isNon d := by
  cases d with
  | non => cases (show Dv F v .non from h).nonE; rfl
  | bl b => cases h.blE; rfl
  | int b => cases h.intE; rfl
  | str b => cases h.strE; rfl
  | lst ds => obtain ⟨a, _, rfl, _⟩ := h; rfl
  | tup ds => obtain ⟨a, _, rfl, _⟩ := h; rfl
  | dic ks ds => obtain ⟨a, _, rfl, _⟩ := h; rfl
  | ins C ns ds => obtain ⟨a, _, _, rfl, _⟩ := h; rfl
  | dit t ks ds => obtain ⟨a, _, _, rfl, _⟩ := h; rfl
def oIs : O2 := fun d e A => match e with
  | .non => A (.bl (isNon d))
  | _ => False
def oIsNot : O2 := fun d e A => match e with
  | .non => A (.bl (!isNon d))
  | _ => False
theorem oIs_ok : OR2 (fun x y H Q => y = V.non ∧ Q (V.bl (decide (x = V.non))) H) oIs := fun F H x y d e Q A sm hx hy h q => by
  cases e <;> first | exact h.elim | skip
  refine ⟨(show Dv F y .non from hy).nonE, ?_⟩
  rw [isNon_dec hx]
  exact q _ _ (.bl _) h
theorem oIsNot_ok : OR2 (fun x y H Q => y = V.non ∧ Q (V.bl (!decide (x = V.non))) H) oIsNot := fun F H x y d e Q A sm hx hy h q => by
  cases e <;> first | exact h.elim | skip
  refine ⟨(show Dv F y .non from hy).nonE, ?_⟩
  rw [isNon_dec hx]
  exact q _ _ (.bl _) h
def oIsB : O2 := fun d e A => match d, e with
  | .bl a, .bl b => A (.bl (decide (a = b)))
  | _, _ => False
def oIsNB : O2 := fun d e A => match d, e with
  | .bl a, .bl b => A (.bl (!decide (a = b)))
  | _, _ => False
theorem oIsB_ok : OR2 rIsB oIsB := fun F H x y d e Q A sm hx hy h q => by
  cases d <;> cases e <;> first | exact h.elim | skip
  exact ⟨_, _, hx.blE, hy.blE, q _ _ (.bl _) h⟩
theorem oIsNB_ok : OR2 rNotB oIsNB := fun F H x y d e Q A sm hx hy h q => by
  cases d <;> cases e <;> first | exact h.elim | skip
  exact ⟨_, _, hx.blE, hy.blE, q _ _ (.bl _) h⟩
def bMax2 : List D → (D → Prop) → Prop := fun ds A => match ds with
  | [.int i, .int j] => A (.int (if j > i then j else i))
  | _ => False
theorem bMax2_ok : OB (fun xs H Q => ∃ i j, xs = [V.int i, V.int j] ∧ Q (V.int (if j > i then j else i)) H) bMax2 := fun F H vs ds Q A sm tv h q => by
  unfold bMax2 at h
  split at h
  · cases tv with | cons t1 t => ?_
    cases t with | cons t2 t => ?_
    cases t
    cases t1.intE
    cases t2.intE
    exact ⟨_, _, rfl, q _ _ (.int _) h⟩
  · exact h.elim
def bMin2 : List D → (D → Prop) → Prop := fun ds A => match ds with
  | [.int i, .int j] => A (.int (if j < i then j else i))
  | _ => False
theorem bMin2_ok : OB (fun xs H Q => ∃ i j, xs = [V.int i, V.int j] ∧ Q (V.int (if j < i then j else i)) H) bMin2 := fun F H vs ds Q A sm tv h q => by
  unfold bMin2 at h
  split at h
  · cases tv with | cons t1 t => ?_
    cases t with | cons t2 t => ?_
    cases t
    cases t1.intE
    cases t2.intE
    exact ⟨_, _, rfl, q _ _ (.int _) h⟩
  · exact h.elim
def oBits : D → (D → Prop) → Prop := fun d A => match d with
  | .int i => A (.int (Builtin.Int.intBits i))
  | _ => False
theorem RE.bits {ta : TE} {a : AE} (ha : RE Z ta a) : RE Z (tBits ta) (aUn oBits a) := fun B hB F al s σ H Q A X h q =>
  ha B hB F al s σ H _ _ X h fun r1 s1 F1 al1 H1 v1 x1 X1 rv1 h1 => by
    obtain ⟨d, e1, h1⟩ := pk_ok h1
    cases d <;> first | exact h1.elim | skip
    exact ⟨_, (X1.peek rv1 e1).intE, q (.w (.d (.int _))) s1 F1 al1 H1 _ x1 X1 (Dv.int _) h1⟩
/-! ### isinstance of a built-in class -/
def tyN : D → String
  | .non => "NoneType"
  | .bl _ => "bool"
  | .int _ => "int"
  | .str _ => "str"
  | .lst _ => "list"
  | .tup _ => "tuple"
  | .dic _ _ => "dict"
  | .ins _ _ _ => ""
  | .dit _ _ _ => ""
def aIsi (a : AE) (T : String) : AE := fun s A => a s fun r s1 => pk s1 r fun d => match kitB (tyN d) T with
  | some b => A (.w (.d (.bl b))) s1
  | none => False
/-! ### dicts -/
def keyOf : D → Option Key
  | .int i => some (.inl i)
  | .str s => some (.inr s)
  | _ => none
theorem keyOf_v {d : D} {q : Key} (h : keyOf d = some q) (t : Tv F H v d) : v = kV q := by
  cases d <;> first | (cases h; done) | skip
  · cases h; exact t.intE
  · cases h; exact t.strE
def isK : D → Key → Bool
  | .int i, .inl j => decide (i = j)
  | .str i, .inr j => decide (i = j)
  | _, _ => false
theorem isK_k (q q' : Key) : isK (kD q) q' = decide (q = q') := by
  cases q with
  | inl i => cases q' with
    | inl j => exact decide_eq_decide.mpr ⟨fun z => by rw [z], fun z => Sum.inl.inj z⟩
    | inr j => exact (decide_eq_false (fun z => nomatch z)).symm
  | inr i => cases q' with
    | inl j => exact (decide_eq_false (fun z => nomatch z)).symm
    | inr j => exact decide_eq_decide.mpr ⟨fun z => by rw [z], fun z => Sum.inr.inj z⟩
def dget : List D → List D → Key → Option D
  | k :: ks, d :: ds, q => if isK k q = true then some d else dget ks ds q
  | _, _, _ => none
theorem dget_ok {q : Key} : ∀ {kvs : List (Key × V)} {ds : List D}, DvAll F (kvs.map (·.2)) ds → match dget (kvs.map fun kv => kD kv.1) ds q with
    | some d => ∃ v, valV kvs q = some v ∧ Dv F v d
    | none => valV kvs q = none
  | [], _, h => by cases h; rfl
  | kv :: kvs, _, h => by
    cases h with | cons h1 h2 => ?_
    have ih := dget_ok (q := q) h2
    rw [List.map_cons, dget, isK_k]
    by_cases e : kv.1 = q
    · rw [if_pos (decide_eq_true e)]
      exact ⟨kv.2, valV_pos e, h1⟩
    · rw [if_neg (by rw [decide_eq_false e]; decide), valV_neg e]
      exact ih
def aDNew : AN := fun s A => A (.new (.dic [])) s
theorem RN.dnew : RN Z tDNewK aDNew := fun B hB F al s σ H Q A X h q => fun p np =>
  q (.new (.dic [])) s F al _ _ Ext.refl (X.new np) ((X.apart np).nve ⟨X.sm.free np, _, upd_same, .dic .nil⟩) h
def withDic (s : AS) (rk rd : R) (k : Key → List D → List D → Prop) : Prop := pk s rk fun kd => pk s rd fun dd => match keyOf kd, dd with
  | some q, .dic ks ds => k q ks ds
  | _, _ => False
theorem withDic_ok {rk rd : R} {vk vd : V} {k : Key → List D → List D → Prop} (X : Rel B F al s σ H) (hk : RV F al s.st.length σ rk vk) (hd : RV F al s.st.length σ rd vd) (h : withDic s rk rd k) :
    ∃ q a kvs ds, vk = kV q ∧ vd = .ref a ∧ H a = some (.dK kvs) ∧ DvAll F (kvs.map (·.2)) ds ∧ k q (kvs.map fun kv => kD kv.1) ds := by
  unfold withDic at h
  obtain ⟨kd, e1, h⟩ := pk_ok h
  obtain ⟨dd, e2, h⟩ := pk_ok h
  have t1 := X.peek hk e1
  have t2 := X.peek hd e2
  split at h
  · rename_i q ks ds eq
    obtain ⟨a, kvs, rfl, ea, rfl, dv⟩ := t2
    exact ⟨q, a, kvs, ds, keyOf_v eq t1, rfl, ea, dv, h⟩
  · exact h.elim
def aDIn (neg : Bool) (k d : AE) : AE := fun s A => k s fun rk s1 => d s1 fun rd s2 => withDic s2 rk rd fun q ks ds => A (.w (.d (.bl (if neg then !(dget ks ds q).isSome else (dget ks ds q).isSome)))) s2
theorem dget_some {q : Key} {kvs : List (Key × V)} {ds : List D} (h : DvAll F (kvs.map (·.2)) ds) : (valV kvs q).isSome = (dget (kvs.map fun kv => kD kv.1) ds q).isSome := by
  have := dget_ok (q := q) h
  cases z : dget (kvs.map fun kv => kD kv.1) ds q with
  | none => rw [z] at this; rw [this]; rfl
  | some d => rw [z] at this; obtain ⟨v, e, _⟩ := this; rw [e]; rfl
theorem RE.din {ty td : TE} {k d : AE} (hk : RE Z ty k) (hd : RE Z td d) : RE Z (tDIn ty td) (aDIn false k d) := fun B hB F al s σ H Q A X h q => by
  refine hk B hB F al s σ H _ _ X h ?_
  intro rk s1 F1 al1 H1 v1 x1 X1 rv1 h1
  refine hd B hB F1 al1 s1 σ H1 _ _ X1 h1 ?_
  intro rd s2 F2 al2 H2 v2 x2 X2 rv2 h2
  obtain ⟨q', a, kvs, ds, rfl, rfl, ea, dv, h3⟩ := withDic_ok X2 (rv1.ext x2) rv2 h2
  refine ⟨a, _, rfl, DGet.k ea, ?_⟩
  rw [dget_some dv]
  exact q (.w (.d (.bl _))) s2 F2 al2 H2 _ (x1.trans x2) X2 (Dv.bl _) h3
theorem RE.dnin {ty td : TE} {k d : AE} (hk : RE Z ty k) (hd : RE Z td d) : RE Z (tDNotIn ty td) (aDIn true k d) := fun B hB F al s σ H Q A X h q => by
  refine hk B hB F al s σ H _ _ X h ?_
  intro rk s1 F1 al1 H1 v1 x1 X1 rv1 h1
  refine hd B hB F1 al1 s1 σ H1 _ _ X1 h1 ?_
  intro rd s2 F2 al2 H2 v2 x2 X2 rv2 h2
  obtain ⟨q', a, kvs, ds, rfl, rfl, ea, dv, h3⟩ := withDic_ok X2 (rv1.ext x2) rv2 h2
  refine ⟨a, _, rfl, DGet.k ea, ?_⟩
  rw [dget_some dv]
  exact q (.w (.d (.bl _))) s2 F2 al2 H2 _ (x1.trans x2) X2 (Dv.bl _) h3
def aDGet (d k : AE) : AE := fun s A => d s fun rd s1 => k s1 fun rk s2 => withDic s2 rk rd fun q ks ds => match dget ks ds q with
  | some x => A (.w (.d x)) s2
  | none => False
theorem RE.dget {td ty : TE} {d k : AE} (hd : RE Z td d) (hk : RE Z ty k) : RE Z (tDGet td ty) (aDGet d k) := fun B hB F al s σ H Q A X h q => by
  refine hd B hB F al s σ H _ _ X h ?_
  intro rd s1 F1 al1 H1 v1 x1 X1 rv1 h1
  refine hk B hB F1 al1 s1 σ H1 _ _ X1 h1 ?_
  intro rk s2 F2 al2 H2 v2 x2 X2 rv2 h2
  obtain ⟨q', a, kvs, ds, rfl, rfl, ea, dv, h3⟩ := withDic_ok X2 rv2 (rv1.ext x2) h2
  have := dget_ok (q := q') dv
  split at h3
  · rename_i x e
    rw [e] at this
    obtain ⟨v, e1, e2⟩ := this
    exact ⟨a, v, rfl, by rw [← e1]; exact DGet.k ea, q (.w (.d x)) s2 F2 al2 H2 v (x1.trans x2) X2 e2 h3⟩
  · exact h3.elim
def putZ (kvs : List (Key × D)) (k : Key) (v : D) : List (Key × D) :=
  if (kvs.any fun kv => decide (kv.1 = k)) = true then kvs.map (fun kv => if kv.1 = k then (kv.1, v) else kv) else kvs ++ [(k, v)]
abbrev PD (F : Hp) : List (Key × V) → List (Key × D) → Prop := Paired (fun (p : Key × V) (q : Key × D) => p.1 = q.1 ∧ Dv F p.2 q.2)
theorem PD.any {k : Key} : ∀ {kvs : List (Key × V)} {kds : List (Key × D)}, PD F kvs kds → (kvs.any fun kv => decide (kv.1 = k)) = kds.any fun kv => decide (kv.1 = k)
  | _, _, .nil => rfl
  | _, _, .cons h t => by rw [List.any_cons, List.any_cons, PD.any t, h.1]
theorem PD.map {k : Key} {v : V} {d : D} (hv : Dv F v d) : ∀ {kvs : List (Key × V)} {kds : List (Key × D)}, PD F kvs kds → PD F (kvs.map (fun kv => if kv.1 = k then (kv.1, v) else kv)) (kds.map (fun kv => if kv.1 = k then (kv.1, d) else kv))
  | _, _, .nil => .nil
  | _, _, .cons (a := a) (b := b) h t => by
    refine .cons ?_ (PD.map hv t)
    dsimp only
    rw [h.1]
    by_cases e : b.1 = k
    · rw [if_pos e, if_pos e]; exact ⟨rfl, hv⟩
    · rw [if_neg e, if_neg e]; exact h
theorem PD.put {k : Key} {v : V} {d : D} (hv : Dv F v d) {kvs : List (Key × V)} {kds : List (Key × D)} (h : PD F kvs kds) : PD F (putK kvs k v) (putZ kds k d) := by
  unfold putK putZ
  rw [h.any]
  split
  · exact h.map hv
  · exact Paired.app h (.cons ⟨rfl, hv⟩ .nil)
def aDPut (d k e : AE) : ASt := fun N s => e s fun r s1 => toW r s1 fun w s2 => d s2 fun rd s3 => k s3 fun rk s4 => pk s4 rk fun kd => match keyOf kd, getC s4 rd, w with
  | some q, some (.dic kds), .d x => kds.length < sizeLine ∧ N.nx (putC s4 rd (.dic (putZ kds q x)))
  | _, _, _ => False
theorem RS.dput {td ty tv : TE} {d k e : AE} (hd : RE Z td d) (hk : RE Z ty k) (he : RE Z tv e) : RS Z (sDPut td ty tv) (aDPut d k e) := fun B hB D A rd F al s σ H X h => by
  refine he B hB F al s σ H _ _ X h ?_
  intro r s1 F1 al1 H1 v1 x1 X1 rv1 h1
  obtain ⟨F2, al2, w, s2, x2, X2, wv, h2⟩ := toW_ok X1 rv1 h1
  refine hd B hB F2 al2 s2 σ H1 _ _ X2 h2 ?_
  intro rdd s3 F3 al3 H3 v3 x3 X3 rv3 h3
  refine hk B hB F3 al3 s3 σ H3 _ _ X3 h3 ?_
  intro rk s4 F4 al4 H4 v4 x4 X4 rv4 h4
  obtain ⟨kd, e1, h5⟩ := pk_ok h4
  clear h4
  have tv := X4.peek rv4 e1
  split at h5
  · rename_i q kds x eq eg
    have dvx : Dv F4 v1 x := (wv.ext x3).ext x4
    obtain ⟨a, o, rfl, ho, hc, pt⟩ := X4.getC (rv3.ext x4) eg
    cases hc with | dic pd => ?_
    cases keyOf_v eq tv
    obtain ⟨X5, _⟩ := pt _ _ (.dic (PD.put (k := q) dvx pd))
    exact ⟨a, _, rfl, DPut.k ho (by rw [Paired.len pd]; exact h5.1), rd.nx F4 al4 _ _ _ X5 h5.2⟩
  · exact h5.elim
/-! ### defs -/
def ea0 : XA := fun _ _ _ => False
theorem RN.call0 {m : Nat} {asp : ASp} {ta : TA} {t : AA} (ht : RA Z ta t) : RN Z (tCall (SpA m asp) [] E0 ta) (aCall ea0 m asp t) := fun B hB F al s σ H Q A X h q =>
  ht B hB F al s σ H _ _ X h fun ws s1 F1 al1 H1 vs x1 X1 wvs h1 => by
    obtain ⟨G', Y, k⟩ := X1.frame
    refine ⟨⟨G', F1, al1, s1.st.length⟩, ws, s1.st, _, ea0, Y, rfl, by rw [List.append_nil]; exact wvs, h1.1, h1.2, fun n st' F' al' H' v z Y' nv => ?_, fun C fs st' z => z.elim⟩
    obtain ⟨ex, X2, k2⟩ := k F' al' st' H' Y'
    exact q n ⟨s1.env, st'⟩ F' al' H' v (x1.trans ex) X2 (k2 n v nv) z
theorem SpA.len {m : Nat} {asp : ASp} {vs : List V} {Q : VK} {E : XK} (h : SpA m asp vs H Q E) : vs.length = m := by
  obtain ⟨B, ws, st, A, Ea, _, _, wvs, hm, _⟩ := h
  rw [← Paired.len wvs]; exact hm
def aFn (m : Nat) (ab : XA → ASt) : ASp := fun ws st A Ea => ab Ea ⟨fun s => A (.w (.d .non)) s.st, A, fun _ => False, fun _ => False⟩ ⟨ws.map Sl.v ++ List.replicate (m - ws.length) .no, st⟩
theorem Paired.getE {α β : Type} {P : α → β → Prop} : ∀ {xs : List α} {ys : List β} {i : Nat} {x : α}, Paired P xs ys → xs[i]? = some x → ∃ y, ys[i]? = some y ∧ P x y
  | _, _, _, _, .nil, e => by simp at e
  | _, _, 0, _, .cons r _, e => by simp at e; subst e; exact ⟨_, rfl, r⟩
  | _, _, i + 1, _, .cons _ t, e => by simpa using Paired.getE (i := i) t (by simpa using e)
theorem fn_read {N : List Str} {m : Nat} {asp : ASp} {vs : List V} {Q : VK} {E : XK} {t : TS} {ab : XA → ASt} (hR : ∀ ea, RS ⟨E, ea⟩ t (ab ea)) (red : ∀ ws st A Ea, ws.length = m → asp ws st A Ea → aFn N.length ab ws st A Ea)
    (h : SpA m asp vs H Q E) : t ⟨fun _ H' => Q .non H', Q, fun _ _ => False, fun _ _ => False⟩ (start N vs) H := by
  obtain ⟨B, ws, st, A, Ea, X, hL, wvs, hm, hs, kA, kE⟩ := h
  have hl : vs.length = ws.length := (Paired.len wvs).symm
  have hred := red ws st A Ea hm hs
  unfold aFn at hred
  refine hR Ea B kE _ _ ?_ B.F B.al ⟨ws.map Sl.v ++ List.replicate (N.length - ws.length) .no, st⟩ _ H ?_ hred
  · exact ⟨fun F' al' s' σ' H' X' h' => kA _ _ F' al' H' _ h' X'.toRelS Dv.non, fun F' al' st' H' n v X' nv h' => kA n st' F' al' H' v h' X' nv, fun _ _ _ _ _ _ h => h.elim, fun _ _ _ _ _ _ h => h.elim⟩
  · unfold L2.start
    rw [hl]
    refine ⟨X, by simp [hl], fun j w e => ?_, fun j c e => ?_⟩
    · have e : (ws.map Sl.v ++ List.replicate (N.length - ws.length) .no)[j]? = some (.v w) := e
      by_cases hj : j < ws.length
      · rw [List.getElem?_append_left (by rw [List.length_map]; exact hj), List.getElem?_map] at e
        cases z : ws[j]? with
        | none => rw [z] at e; cases e
        | some w' =>
          rw [z] at e
          cases e
          obtain ⟨v, h1, h2⟩ := Paired.getE wvs z
          refine ⟨v, ?_, h2⟩
          rw [List.getElem?_append_left (by rw [List.length_map, hl]; exact hj), List.getElem?_map, h1]; rfl
      · rw [List.getElem?_append_right (by rw [List.length_map]; omega)] at e
        have := List.mem_of_getElem? e
        have := List.eq_of_mem_replicate this
        cases this
    · have e : (ws.map Sl.v ++ List.replicate (N.length - ws.length) .no)[j]? = some (.own c) := e
      by_cases hj : j < ws.length
      · rw [List.getElem?_append_left (by rw [List.length_map]; exact hj), List.getElem?_map] at e
        cases z : ws[j]? with
        | none => rw [z] at e; cases e
        | some w' => rw [z] at e; cases e
      · rw [List.getElem?_append_right (by rw [List.length_map]; omega)] at e
        have := List.mem_of_getElem? e
        have := List.eq_of_mem_replicate this
        cases this
/-! ### rules for loops -/
theorem forGo_ind {t : Tgt} {b : ASt} {N : AEnds} (I : List D → AS → Prop) (hnil : ∀ s, I [] s → N.nx s)
    (hcons : ∀ d ds s (k : AS → Prop), (∀ s, I ds s → k s) → I (d :: ds) s → match bindT t d s.env with | some env' => b ⟨k, N.rt, N.nx, k⟩ ⟨env', s.st⟩ | none => False) : ∀ ds s, I ds s → forGo t b N ds s
  | [], s, h => hnil s h
  | d :: ds, s, h => by
    unfold forGo
    exact hcons d ds s _ (forGo_ind I hnil hcons ds) h
theorem while_ind {c : AT} {b : ASt} {N : AEnds} (I : Nat → AS → Prop)
    (step : ∀ m s (k : AS → Prop), (∀ m' s, m' < m → I m' s → k s) → I m s → c s fun b' s1 => if b' = true then b ⟨k, N.rt, N.nx, k⟩ s1 else N.nx s1) (m : Nat) (s : AS) (h : I m s) : aWhile c b N s := by
  refine ⟨m + 1, ?_⟩
  have : ∀ n m s, m < n → I m s → whN c b N n s := by
    intro n
    induction n with
    | zero => intro m s hm; omega
    | succ n ih =>
      intro m s hm h
      unfold whN
      exact step m s _ (fun m' s' hm' h' => ih m' s' (by omega) h') h
  exact this (m + 1) m s (Nat.lt_succ_self m) h
theorem lcGo_ind {t : Tgt} {c : AT} {e : AE} {vs : List Nat} {k : List D → AS → Prop} (I : List D → AS → List D → Prop) (hnil : ∀ s acc, I [] s acc → k acc s)
    (hcons : ∀ d ds s acc (k' : AS → List D → Prop), (∀ s acc, I ds s acc → k' s acc) → I (d :: ds) s acc → match bindT t d s.env with
      | some env' => c ⟨env', s.st⟩ fun b s1 => if b = true then e s1 fun r s2 => toW r s2 fun w s3 => match w with
          | .d x => acc.length < sizeLine ∧ k' ⟨wipeE s3.env vs, s3.st⟩ (acc ++ [x])
          | _ => False
        else k' ⟨wipeE s1.env vs, s1.st⟩ acc
      | none => False) : ∀ ds s acc, I ds s acc → lcGo t c e vs k ds s acc
  | [], s, acc, h => hnil s acc h
  | d :: ds, s, acc, h => by
    unfold lcGo
    exact hcons d ds s acc _ (lcGo_ind I hnil hcons ds) h
def gather (f : D → Bool) (g : D → D) (ds : List D) : List D := (ds.filter f).map g
/-- a comprehension that changes nothing -/
theorem lcGo_pure {t : Tgt} {c : AT} {e : AE} {vs : List Nat} {k : List D → AS → Prop} {E0 : List Sl} {st : List Cell} {ds0 : List D} (f : D → Bool) (g : D → D) (hl : ds0.length ≤ 100000)
    (h : ∀ d ∈ ds0, ∃ env', bindT t d E0 = some env' ∧ wipeE env' vs = E0 ∧ (∀ A : Bool → AS → Prop, A (f d) ⟨env', st⟩ → c ⟨env', st⟩ A) ∧ (f d = true → ∀ A : R → AS → Prop, A (.w (.d (g d))) ⟨env', st⟩ → e ⟨env', st⟩ A))
    (hk : k (gather f g ds0) ⟨E0, st⟩) : lcGo t c e vs k ds0 ⟨E0, st⟩ [] := by
  refine lcGo_ind (fun ds s acc => s = ⟨E0, st⟩ ∧ ∃ pre, ds0 = pre ++ ds ∧ acc = gather f g pre) ?_ ?_ ds0 _ _ ⟨rfl, [], rfl, rfl⟩
  · rintro s acc ⟨rfl, pre, e1, rfl⟩
    rw [List.append_nil] at e1
    rw [← e1]; exact hk
  · rintro d ds s acc k' hk' ⟨rfl, pre, e1, rfl⟩
    obtain ⟨env', h1, h2, h3, h4⟩ := h d (by rw [e1]; simp)
    simp only [h1]
    have e2 : ds0 = (pre ++ [d]) ++ ds := by rw [e1]; simp
    refine h3 _ ?_
    cases hf : f d with
    | false =>
      rw [if_neg (by decide), h2]
      refine hk' _ _ ⟨rfl, _, e2, ?_⟩
      unfold gather
      rw [List.filter_append, List.filter_cons, if_neg (by rw [hf]; decide)]
      simp
    | true =>
      rw [if_pos rfl]
      refine h4 hf _ ?_
      simp only [toW]
      refine ⟨?_, ?_⟩
      · have : (gather f g pre).length ≤ pre.length := by unfold gather; rw [List.length_map]; exact List.length_filter_le _ _
        have h5 : pre.length ≤ ds0.length := by rw [e1, List.length_append]; omega
        exact Nat.lt_of_le_of_lt (Nat.le_trans this (Nat.le_trans h5 hl)) (by decide)
      · rw [h2]
        refine hk' _ _ ⟨rfl, _, e2, ?_⟩
        unfold gather
        rw [List.filter_append, List.filter_cons, if_pos hf, List.map_append]
        rfl
theorem at0 {α : Type} {a : α} {l : List α} : atI (a :: l) 0 = some a := by
  unfold atI ixN
  rw [if_pos (by decide), if_pos (by rw [List.length_cons]; omega)]; rfl
theorem at1 {α : Type} {a b : α} {l : List α} : atI (a :: b :: l) 1 = some b := by
  unfold atI ixN
  rw [if_pos (by decide), if_pos (by rw [List.length_cons, List.length_cons]; omega)]; rfl
theorem at2 {α : Type} {a b c : α} {l : List α} : atI (a :: b :: c :: l) 2 = some c := by
  unfold atI ixN
  rw [if_pos (by decide), if_pos (by rw [List.length_cons, List.length_cons, List.length_cons]; omega)]; rfl
theorem at3 {α : Type} {a b c d : α} {l : List α} : atI (a :: b :: c :: d :: l) 3 = some d := by
  unfold atI ixN
  rw [if_pos (by decide), if_pos (by rw [List.length_cons, List.length_cons, List.length_cons, List.length_cons]; omega)]; rfl
theorem ix0 {n : Nat} : ixN (n + 1) 0 = some 0 := by
  unfold ixN
  rw [if_pos (by decide), if_pos (by omega)]; rfl
theorem ix1 {n : Nat} : ixN (n + 1 + 1) 1 = some 1 := by
  unfold ixN
  rw [if_pos (by decide), if_pos (by omega)]; rfl
theorem ix2 {n : Nat} : ixN (n + 1 + 1 + 1) 2 = some 2 := by
  unfold ixN
  rw [if_pos (by decide), if_pos (by omega)]; rfl
/-! ### equations for the walk -/
theorem okD_nil : okD (.lst []) = true := by decide
theorem okD_str {x : Str} : okD (.str x) = true := rfl
theorem okD_int {x : Int} : okD (.int x) = true := rfl
theorem okD_bl {x : Bool} : okD (.bl x) = true := rfl
theorem okD_non : okD .non = true := rfl
section
variable {env : List Sl} {w : W} {c : Cell} {k : W → AS → Prop}
theorem q_peek_w : peek s (.w w) = peekW s w := rfl
theorem q_peek_s : peek ⟨env, st⟩ (.sl i) = (match env[i]? with
    | some (.own c) => cellD c
    | some (.v w) => peekW ⟨env, st⟩ w
    | _ => none) := rfl
theorem q_peekW_d : peekW s (.d x) = some x := rfl
theorem q_peekW_loc : peekW ⟨env, st⟩ (.loc n) = (match st[n]? with
    | some c => cellD c
    | none => none) := rfl
theorem q_cellD_lst {ds : List D} : cellD (.lst ds) = some (.lst ds) := rfl
theorem q_cellD_dic {kvs : List (Key × D)} : cellD (.dic kvs) = some (.dic (kvs.map fun kv => kD kv.1) (kvs.map (·.2))) := rfl
theorem q_toW_w : toW (.w w) s k = k w s := rfl
theorem q_toW_s : toW (.sl i) ⟨env, st⟩ k = (match env[i]? with
    | some (.v w) => k w ⟨env, st⟩
    | some (.own c) => match cellD c with
      | some x => k (.d x) ⟨env.set i (.v (.d x)), st⟩
      | none => k (.loc st.length) ⟨env.set i (.v (.loc st.length)), st ++ [c]⟩
    | _ => False) := rfl
theorem q_toL_w : toL (.w w) s k = k w s := rfl
theorem q_toL_s : toL (.sl i) ⟨env, st⟩ k = (match env[i]? with
    | some (.v w) => k w ⟨env, st⟩
    | some (.own c) => k (.loc st.length) ⟨env.set i (.v (.loc st.length)), st ++ [c]⟩
    | _ => False) := rfl
theorem q_nToW_w : nToW (.w w) s k = k w s := rfl
theorem q_nToW_lst {ds : List D} : nToW (.new (.lst ds)) s k = k (.d (.lst ds)) s := rfl
theorem q_nToW_dic {kvs : List (Key × D)} : nToW (.new (.dic kvs)) s k = k (.d (.dic (kvs.map fun kv => kD kv.1) (kvs.map (·.2)))) s := rfl
theorem q_put_w : Zi.put i (.w w) s = ⟨s.env.set i (.v w), s.st⟩ := rfl
theorem q_put_n : Zi.put i (.new c) s = ⟨s.env.set i (.own c), s.st⟩ := rfl
theorem q_getC_loc : getC ⟨env, st⟩ (.w (.loc n)) = st[n]? := rfl
theorem q_getC_s : getC ⟨env, st⟩ (.sl i) = (match env[i]? with
    | some (.own c) => some c
    | some (.v (.loc n)) => st[n]?
    | _ => none) := rfl
theorem q_putC_loc : putC ⟨env, st⟩ (.w (.loc n)) c = ⟨env, st.set n c⟩ := rfl
theorem q_putC_s : putC ⟨env, st⟩ (.sl i) c = (match env[i]? with
    | some (.own _) => ⟨env.set i (.own c), st⟩
    | some (.v (.loc n)) => ⟨env, st.set n c⟩
    | _ => ⟨env, st⟩) := rfl
end
end
end Zi

set_option Elab.async false
set_option linter.all false
set_option maxRecDepth 100000
set_option maxHeartbeats 2000000
/-! Zs: sets of scannable keys of any kind, with what is in them; sorted of them. -/
namespace Zs
open PySem PySem.Spec PyProof.Rows L2 Ly
variable [Zi.Wd]
section
variable {κ : Type} [DecidableEq κ] {P : Program} {w : World}
/-- an entry is the key -/
def EK (knd : PySem.KeyKind P w κ) (e : Int × Value) (k : κ) : Prop := knd.is k e.2 = true ∧ e.1 = knd.hash k ∧ e.2.scannable = true
/-- the set at a has just the keys of L -/
def SetG (knd : PySem.KeyKind P w κ) (h : Heap) (a : Addr) (L : List κ) : Prop := L.Nodup ∧ ∃ (o : Obj) (es : Array (Int × Value)) (ep : Nat) (t : SetTable) (ks : List κ),
  h.get? a = some o ∧ o.ExactSet ∧ o.data = .set es ep t ∧ Paired (EK knd) es.toList ks ∧ ks.Perm L ∧ es.size < scanBound ∧ t.fits es.size = true ∧ Ris t.place.toList ∧ (w.params.followText "set-order" = true ∨ t.led = true)
variable {knd : PySem.KeyKind P w κ} {h h' : Heap} {a : Addr} {L : List κ} {A : Around} {E : Value → Shared → Prop} {s : Shared}
theorem SetG.at (R : SetG knd h a L) (k : ∀ o, h.get? a = some o → h'.get? a = some o) : SetG knd h' a L := by
  obtain ⟨nd, o, es, ep, t, ks, eo, r⟩ := R
  exact ⟨nd, o, es, ep, t, ks, k o eo, r⟩
theorem SetG.perm {L' : List κ} (R : SetG knd h a L) (p : L.Perm L') : SetG knd h a L' := by
  obtain ⟨nd, o, es, ep, t, ks, eo, xo, dd, pe, pm, r⟩ := R
  exact ⟨p.nodup_iff.mp nd, o, es, ep, t, ks, eo, xo, dd, pe, pm.trans p, r⟩
theorem pkey : ∀ {es : List (Int × Value)} {ks : List κ}, Paired (EK knd) es ks → ElemsOf knd es
  | _, _, .nil => fun e he => by cases he
  | _, _, .cons x t => fun e he => by
    rcases List.mem_cons.mp he with z | z
    · rw [z]; exact ⟨⟨_, x.1, x.2.1⟩, x.2.2⟩
    · exact pkey t e z
theorem pmem : ∀ {es : List (Int × Value)} {ks : List κ} {k : κ}, Paired (EK knd) es ks → (k ∈ ks ↔ ∃ e ∈ es, knd.is k e.2 = true)
  | _, _, k, .nil => by simp
  | _, _, k, .cons (a := e) (b := k') x t => by
    have ih := pmem (k := k) t
    rw [List.mem_cons, ih]
    constructor
    · rintro (rfl | ⟨e', he, q⟩)
      · exact ⟨e, List.mem_cons_self, x.1⟩
      · exact ⟨e', List.mem_cons_of_mem _ he, q⟩
    · rintro ⟨e', he, q⟩
      rcases List.mem_cons.mp he with z | z
      · rw [z] at q; exact .inl (knd.inj _ _ _ q x.1)
      · exact .inr ⟨e', z, q⟩
theorem pperm : ∀ {es es' : List (Int × Value)} {ks : List κ}, es'.Perm es → Paired (EK knd) es ks → ∃ ks', Paired (EK knd) es' ks' ∧ ks'.Perm ks := by
  intro es es' ks p
  induction p generalizing ks with
  | nil => intro x; exact ⟨ks, x, List.Perm.refl _⟩
  | cons e p ih =>
    intro x
    cases x with | cons x1 x2 => ?_
    obtain ⟨ks', y1, y2⟩ := ih x2
    exact ⟨_, .cons x1 y1, y2.cons _⟩
  | swap e e' l =>
    intro x
    cases x with | cons x1 x2 => ?_
    cases x2 with | cons x2 x3 => ?_
    exact ⟨_, .cons x2 (.cons x1 x3), List.Perm.swap _ _ _⟩
  | trans p q ih1 ih2 =>
    intro x
    obtain ⟨k1, y1, y2⟩ := ih2 x
    obtain ⟨k2, z1, z2⟩ := ih1 y1
    exact ⟨k2, z1, z2.trans y2⟩
theorem plen {es : List (Int × Value)} {ks : List κ} (x : Paired (EK knd) es ks) : es.length = ks.length := Zi.Paired.len x
/-- behind the table's change -/
theorem add_end {g : Bool → Sem Unit} (gOk : ∀ (b : Bool) (u : Shared) (Q' : Unit → Shared → Prop), Q' () u → wpAny (model P w) A (g b) Q' E u)
    {o : Obj} {es : Array (Int × Value)} {ep : Nat} {t : SetTable} (eo : s.heap.get? a = some o) (xo : o.ExactSet) (dd : o.data = .set es ep t)
    {es1 : Array (Int × Value)} {t2 : SetTable} (b1 : es1.size < scanBound) (f2 : t2.fits es1.size = true) (r2 : Ris t2.place.toList) (l2 : w.params.followText "set-order" = true ∨ t2.led = true) {wd : Bool} {R : Option Bool → Shared → Prop}
    (hR : ∀ (h' : Heap) (o' : Obj) (es' : Array (Int × Value)) (ep' : Nat) (t' : SetTable), Heap.SameBut a s.heap h' → h'.get? a = some o' → o'.ExactSet → o'.data = .set es' ep' t' → es'.toList.Perm es1.toList → t'.fits es'.size = true → Ris t'.place.toList →
      (w.params.followText "set-order" = true ∨ t'.led = true) → R (some true) { s with heap := h' }) :
    wpAny (model P w) A (do
        storeSet a es1 t2
        if (!wd && t2.tooFull) = true then do
            g (relayAll t2 es1 (SetTable.grown es1.size)).2.2
            storeSet a (relayAll t2 es1 (SetTable.grown es1.size)).1 (relayAll t2 es1 (SetTable.grown es1.size)).2.1
            pure (some true)
          else pure (some true)) R E s := by
  refine wpAny_bind (wpAny_storeSet_of eo dd ?_ (fits_of_scanBound b1))
  have eo1 := store_at (es' := es1) (t' := t2) eo dd
  have sb := Heap.SameBut.update s.heap a (Obj.putSet es1 t2)
  split
  · have pm := relayAll_perm t2 es1 (SetTable.grown es1.size)
    have f3 := relayAll_fits t2 es1 (SetTable.grown es1.size)
    have r3 := relayAll_ris t2 es1 (SetTable.grown es1.size)
    have l3 := relayAll_led t2 es1 (SetTable.grown es1.size)
    generalize relayAll t2 es1 (SetTable.grown es1.size) = Y at pm f3 r3 l3 ⊢
    obtain ⟨es2, t3, gv⟩ := Y
    dsimp only at pm f3 r3 l3 ⊢
    have sz : es2.size = es1.size := by rw [← Array.length_toList, pm.length_eq, Array.length_toList]
    refine wpAny_bind (gOk _ _ _ ?_)
    refine wpAny_bind (wpAny_storeSet_of eo1 rfl ?_ (fits_of_scanBound (by rw [sz]; exact b1)))
    have eo2 := store_at (es' := es2) (t' := t3) eo1 rfl
    refine wpAny_pure (hR _ _ es2 _ t3 (sb.trans (Heap.SameBut.update _ a _)) eo2 xo rfl pm f3 r3 (l2.imp id fun z => by rw [l3]; exact z))
  · exact wpAny_pure (hR _ _ es1 _ t2 sb eo1 xo rfl (List.Perm.refl _) f2 r2 l2)
/-- L with k, where it isn't there -/
def plus (L : List κ) (k : κ) : List κ := if k ∈ L then L else k :: L
theorem add_hashed {k : κ} {v : Value} {Q : Bool → Shared → Prop} (kv : knd.is k v = true) (sc : v.scannable = true) (R : SetG knd s.heap a L) (room : L.length + 1 < scanBound)
    (hQ : ∀ b h', Heap.SameBut a s.heap h' → SetG knd h' a (plus L k) → Q b { s with heap := h' }) : wpAny (model P w) A (setAddHashed a v (knd.hash k)) Q E s := by
  obtain ⟨nd, o, es, ep, t, ks, eo, xo, dd, pe, pm, sb, fi, ri, le⟩ := R
  have el : ElemsOf knd es.toList := pkey pe
  unfold setAddHashed setAddHashedIn
  refine wpAny_holding (wpAny_bind (wpAny_setState_of eo dd fi ?_))
  dsimp only
  rw [byScan_of sc sb el]
  simp only [↓reduceIte]
  unfold setAddByScan
  refine wpAny_bind (wpAny_bind (wpAny_rule ?_))
  refine wpAny_bind (wpAny_setScan_of kv eo dd fi el ?_)
  cases fx : List.findIdx? (fun e => knd.is k e.2) es.toList with
  | some j =>
    dsimp only
    obtain ⟨hj, pj, _⟩ := List.findIdx?_eq_some_iff_getElem.mp fx
    have kin : k ∈ L := pm.mem_iff.mp ((pmem pe).mpr ⟨_, List.getElem_mem hj, pj⟩)
    refine wpAny_pure (wpAny_pure (hQ _ s.heap (Heap.SameBut.refl a s.heap) ?_))
    unfold plus
    rw [if_pos kin]
    exact ⟨nd, o, es, ep, t, ks, eo, xo, dd, pe, pm, sb, fi, ri, le⟩
  | none =>
    dsimp only
    have kout : k ∉ L := fun z => by
      obtain ⟨e, he, q⟩ := (pmem pe).mp (pm.mem_iff.mpr z)
      have := List.findIdx?_eq_none_iff.mp fx e he
      rw [q] at this; cases this
    have gw : ∀ (b : Bool) {u : Shared} {Q' : Unit → Shared → Prop}, Q' () u → wpAny (model P w) A (match b with | true => rule "set.scan.the-table-gave-way" | false => pure ()) Q' E u :=
      fun b u Q' q => by cases b <;> first | exact wpAny_pure q | exact wpAny_rule q
    have pn := layNew_perm t es (knd.hash k) v
    have f1 := layNew_fits t es (knd.hash k) v
    have r1 := layNew_ris t es (knd.hash k) v ri
    have l1 := layNew_led t es (knd.hash k) v
    generalize layNew t es (knd.hash k) v = Y at pn f1 r1 l1 ⊢
    obtain ⟨es1, t1, wd, gv⟩ := Y
    dsimp only at pn f1 r1 l1 ⊢
    rw [Array.toList_push] at pn
    have pc : es1.toList.Perm ((knd.hash k, v) :: es.toList) := pn.trans (List.perm_append_singleton _ _)
    have sz : es1.size = es.size + 1 := by rw [← Array.length_toList, pc.length_eq, List.length_cons, Array.length_toList]
    have esz : es.size = L.length := by rw [← Array.length_toList, plen pe, pm.length_eq]
    have b1 : es1.size < scanBound := by rw [sz, esz]; exact room
    have le1 : w.params.followText "set-order" = true ∨ t1.led = true := le.imp id fun z => by rw [l1]; exact z
    have fin : ∀ (h' : Heap) (o' : Obj) (es' : Array (Int × Value)) (ep' : Nat) (t' : SetTable), Heap.SameBut a s.heap h' → h'.get? a = some o' → o'.ExactSet → o'.data = .set es' ep' t' → es'.toList.Perm es1.toList → t'.fits es'.size = true → Ris t'.place.toList →
        (w.params.followText "set-order" = true ∨ t'.led = true) → Q true { s with heap := h' } := fun h' o' es' ep' t' q1 q2 q3 q4 q5 q6 q7 q8 => by
      obtain ⟨ks', y1, y2⟩ := pperm (q5.trans pc) (.cons (b := k) ⟨kv, rfl, sc⟩ pe)
      refine hQ _ h' q1 ?_
      unfold plus
      rw [if_neg kout]
      refine ⟨List.nodup_cons.mpr ⟨kout, nd⟩, o', es', ep', t', ks', q2, q3, q4, y1, y2.trans (pm.cons _), ?_, q6, q7, q8⟩
      rw [← Array.length_toList, q5.length_eq, Array.length_toList]; exact b1
    refine wpAny_bind (gw _ ?_)
    split
    · refine wpAny_bind ?_
      rw [hashByValue_scannable 8 sc]
      refine wpAny_pure ?_
      refine add_end (fun b u Q' q => ?_) eo xo dd b1 ?_ ?_ ?_ ?_
      · cases b <;> first | exact wpAny_pure q | exact wpAny_rule q
      · first | (split <;> first | exact f1 | exact SetTable.fits_plain_off f1) | exact f1
      · first | (split <;> exact r1) | exact r1
      · first | (split <;> exact le1) | exact le1
      · intro h' o' es' ep' t' q1 q2 q3 q4 q5 q6 q7 q8; dsimp only; exact wpAny_pure (fin h' o' es' ep' t' q1 q2 q3 q4 q5 q6 q7 q8)
    · refine wpAny_bind (wpAny_pure ?_)
      simp only [↓reduceIte]
      refine add_end (fun b u Q' q => ?_) eo xo dd b1 f1 r1 le1 ?_
      · cases b <;> first | exact wpAny_pure q | exact wpAny_rule q
      · intro h' o' es' ep' t' q1 q2 q3 q4 q5 q6 q7 q8; dsimp only; exact wpAny_pure (fin h' o' es' ep' t' q1 q2 q3 q4 q5 q6 q7 q8)
theorem SetG.typeIs (R : SetG knd s.heap a L) : s.TypeIs (.ref a) "set" := by
  obtain ⟨nd, o, es, ep, t, ks, eo, xo, _⟩ := R
  exact ⟨o, eo, xo.1⟩
theorem add_at {k : κ} {v : Value} {Q : Value → Shared → Prop} (kv : knd.is k v = true) (sc : v.scannable = true) (R : SetG knd s.heap a L) (room : L.length + 1 < scanBound)
    (hQ : ∀ h', Heap.SameBut a s.heap h' → SetG knd h' a (plus L k) → Q .none { s with heap := h', toks := s.toks + 1 }) : wpAny (model P w) A (call (.builtin "set.add") [.ref a, v]) Q E s := by
  refine wpAny_call_entry F.slot_set_add R.typeIs F.entry_set_add ?_ (F.args_set_add_2 _ _)
  unfold Builtin.«set.add» Builtin.Frozenset.oneOther
  simp only [List.isEmpty_nil, bind_assoc]
  unfold Builtin.Frozenset.addrOf setAdd
  refine wpAny_bind (wpAny_pure ?_)
  try dsimp only
  refine wpAny_bind (wpAny_pure ?_)
  try dsimp only
  refine wpAny_bind (wpAny_holding ?_)
  refine wpAny_bind (knd.pyHash kv ?_)
  refine add_hashed (s := { s with toks := s.toks + 1 }) kv sc R room fun b h' q1 q2 => ?_
  show wpAny _ _ (ret Value.none) _ _ _
  exact wpAny_pure ⟨_, rfl, hQ h' q1 q2⟩
end
end Zs

set_option Elab.async false
set_option linter.all false
set_option maxRecDepth 100000
set_option maxHeartbeats 2000000
/-! Zu: comprehensions of sets, dicts, of two clauses; sorted of lists and sets; the least of a list. -/
namespace Zs
open PySem PySem.Spec PyProof.Rows L2 Ly Lc
variable [Zi.Wd]
section
variable {X : Cx} {tg iter : Expr} {ifs : List Expr} {gs : List Comprehension} {sc : Scope} {own : List (Str × Nat)} {pos : Pos} {wi : TI} {g : TG} {tt : TT} {t : Addr → TCl} {vs' : List Nat}
theorem pe_comp (kd : Kd) {newAcc : Sem Value} {o0 : Obj} {ho : Addr → HO} (ev : eval (kd.expr (⟨tg, iter, ifs, 0⟩ :: gs) sc pos) X.env = comprehension (kd.expr (⟨tg, iter, ifs, 0⟩ :: gs) sc pos) sc X.env (firstIterPos (⟨tg, iter, ifs, 0⟩ :: gs) pos) newAcc false (eval iter X.env))
    (hc : X.calm = true) (hN : X.N.Nodup) (ha : ∀ g' ∈ (⟨tg, iter, ifs, 0⟩ :: gs : List Comprehension), g'.is_async = 0) (hi : PI X tg iter wi) (ok : BlkOk X.N X.env.scope sc own)
    (hnew : ∀ (s : Shared) (E : Value → Shared → Prop) (Q : Value → Shared → Prop), Q (.ref s.heap.objs.size) { s with heap := s.heap.push o0 } → wpAny (model X.prog X.w) X.A newAcc Q E s)
    (hobj : ∀ (H : Hp) (h : Heap), sysModules < h.objs.size → ObjOk X.prog X.w (upd H h.objs.size (ho h.objs.size)) (h.push o0) h.objs.size (ho h.objs.size))
    (hg : ∀ (s : Shared) (H : Hp) (C : Addr) (cl : List (Str × Addr)) (fp : List Addr), PG (X.blk s H sc (compEnvC sc cl C X.env) fp) tg g)
    (ht : ∀ (s : Shared) (H : Hp) (C : Addr) (cl : List (Str × Addr)) (fp : List Addr), PTs (X.blk s H sc (compEnvC sc cl C X.env) fp) ifs tt)
    (hin : ∀ (s : Shared) (H : Hp) (C : Addr) (cl : List (Str × Addr)) (fp : List Addr) (D : Addr), InnerOk (X.blk s H sc (compEnvC sc cl C X.env) fp) kd (⟨tg, iter, ifs, 0⟩ :: gs) sc pos D 1 vs' (t D))
    (hsub : ∀ i ∈ vs', i ∈ own.map (·.2)) (hs : ∀ x, foldedSetIterable iter X.env x = pure x := by intro _; rfl) :
    PE X (kd.expr (⟨tg, iter, ifs, 0⟩ :: gs) sc pos) (tComp wi g tt t (own.map (·.2)) ho) := by
  refine ⟨fun pins s σ H Q I h => ?_⟩
  rw [ev]
  refine comp_core hc hN rfl ha I hi ok hnew hobj hg ht hin hsub hs h fun D C s' m H' I' q hn f => ⟨m, hn, fun h'' sb => ?_⟩
  obtain ⟨f0, f1, f2, f3, f4, f5⟩ := f
  exact ⟨.ref D, H', I'.turned (t' := s'.toks) (fun b o hb e => (sb.2 b hb).trans e) f0 f1 f3 f4 f5, rfl, q⟩
/-! ### sets of ints and texts with what is in them -/
def SetL (P : Program) (w : World) (L : List Key) (a : Addr) : HO := .ext fun h => SetG (mixKind P w) h a L
theorem setL_ok {P : Program} {w : World} {H : Hp} {h : Heap} {a : Addr} {L : List Key} (R : SetG (mixKind P w) h a L) : ObjOk P w H h a (SetL P w L a) := by
  obtain ⟨_, o, _, _, _, _, eo, _⟩ := id R
  exact ⟨R, ⟨o, eo⟩, fun _ _ p k => SetG.at p k⟩
theorem setL_at {pins : List (Addr × Obj)} {σ : L2.St} {H : Hp} {s : Shared} {a : Addr} {L : List Key} (I : Inv X pins σ H s) (e : H a = some (SetL X.prog X.w L a)) : SetG (mixKind X.prog X.w) s.heap a L := (I.hok a _ e).1
/-- what the new set asks of what is put to it -/
def rPut (P : Program) (w : World) (D : Addr) : V → Hp → (Hp → Prop) → Prop := fun y H Nx => ∃ (k : Key) (L : List Key), y = kV k ∧ H D = some (SetL P w L D) ∧ L.length + 1 < scanBound ∧ Nx (upd H D (SetL P w (plus L k) D))
theorem put_ok {D : Addr} : AddR X D (rPut X.prog X.w D) := by
  intro pins s σ H y v Nx I r h
  obtain ⟨k, L, rfl, ed, room, n⟩ := h
  refine add_at (kV_is r) (key_scan r) (setL_at I ed) room fun h' sb new => ?_
  obtain ⟨_, o, _, _, _, _, eo, _⟩ := id new
  exact ⟨_, I.write (e := D) (t' := s.toks + 1) (by rw [ed]; trivial) (.inl rfl) (fun b u hb hu => (sb.2 b hb).trans hu) ⟨o, eo⟩ (setL_ok new), n⟩
theorem newSet_at {P : Program} {w : World} {A : Around} {E : Value → Shared → Prop} {s : Shared} {Q : Value → Shared → Prop} (h : Q (.ref s.heap.objs.size) { s with heap := s.heap.push { cls := .type "set", dict := none, data := .set #[] 0 (.fresh 0 0 (!w.params.followText "set-order")) } }) :
    wpAny (model P w) A (newSet (.type "set")) Q E s := wpAny_newSet_raw fun led e => by subst e; exact h
theorem fresh_ok {P : Program} {w : World} (h : Heap) : SetG (mixKind P w) (h.push { cls := .type "set", dict := none, data := .set #[] 0 (.fresh 0 0 (!w.params.followText "set-order")) }) h.objs.size [] := by
  refine ⟨List.nodup_nil, _, #[], 0, _, [], Heap.get?_push_size _ rfl, ⟨rfl, rfl, rfl⟩, rfl, .nil, List.Perm.refl _, by decide, by rfl, ?_, ?_⟩
  · exact List.Pairwise.nil
  · show _ ∨ (!w.params.followText "set-order") = true
    cases z : w.params.followText "set-order" with
    | false => exact .inr rfl
    | true => exact .inl rfl
/-! ### sorted -/
theorem each_perm {α β : Type} {R : α → β → Prop} : ∀ {us vs : List α} {ks : List β}, vs.Perm us → PySem.W.EachIs R us ks → ∃ ks', PySem.W.EachIs R vs ks' ∧ ks'.Perm ks := by
  intro us vs ks p
  induction p generalizing ks with
  | nil => intro x; exact ⟨ks, x, List.Perm.refl _⟩
  | cons e p ih =>
    intro x
    cases x with | cons x1 x2 => ?_
    obtain ⟨ks', y1, y2⟩ := ih x2
    exact ⟨_, .cons x1 y1, y2.cons _⟩
  | swap e e' l =>
    intro x
    cases x with | cons x1 x2 => ?_
    cases x2 with | cons x2 x3 => ?_
    exact ⟨_, .cons x2 (.cons x1 x3), List.Perm.swap _ _ _⟩
  | trans p q ih1 ih2 =>
    intro x
    obtain ⟨k1, y1, y2⟩ := ih2 x
    obtain ⟨k2, z1, z2⟩ := ih1 y1
    exact ⟨k2, z1, z2.trans y2⟩
def kPy : Key → PyData
  | .inl i => .int i
  | .inr s => .str s
theorem kPy_reads {h : Heap} {k : Key} {v : Value} (e : keyIs k v = true) : Reads h v (kPy k) [] := by
  rcases keyIs_shape e with ⟨i, t, rfl, rfl⟩ | ⟨x, t, rfl, rfl⟩
  · exact .int _ _
  · exact .str _ _
theorem each_of {P : Program} {w : World} : ∀ {es : List (Int × Value)} {ks : List Key}, Paired (EK (mixKind P w)) es ks → PySem.W.EachIs (fun v k => keyIs k v = true) (es.map (·.2)) ks
  | _, _, .nil => .nil
  | _, _, .cons x t => .cons x.1 (each_of t)
theorem rel_of_is {k : Key} {v : Value} (e : keyIs k v = true) : RelV (kV k) v := by
  rcases keyIs_shape e with ⟨i, t, rfl, rfl⟩ | ⟨x, t, rfl, rfl⟩
  · exact ⟨t, rfl⟩
  · exact ⟨t, rfl⟩
theorem vals_each : ∀ {us : List Value} {ks : List Key}, PySem.W.EachIs (fun v k => keyIs k v = true) us ks → Vals (ks.map kV) us
  | _, _, .nil => .nil
  | _, _, .cons x t => .cons (rel_of_is x) (vals_each t)
theorem each_length {α β : Type} {R : α → β → Prop} : ∀ {us : List α} {ks : List β}, PySem.W.EachIs R us ks → us.length = ks.length
  | _, _, .nil => rfl
  | _, _, .cons _ t => by rw [List.length_cons, List.length_cons, each_length t]
/-- sorted(s), s a set of ints or of texts -/
def rSortSet (P : Program) (w : World) : List V → Hp → VK → Prop := fun xs H Q => ∃ (a : Addr) (L : List Key), xs = [.ref a] ∧ H a = some (SetL P w L a) ∧ L.length ≤ 100000 ∧ PySem.W.AllAlike (L.map kPy) ∧
  ∀ (ks : List Key) (p : Addr), ks.Perm L → H p = none → Q (.ref p) (upd H p (.lst ((ks.mergeSort (PySem.W.dataLe false kPy)).map kV)))
theorem kPy_depth (k : Key) : (kPy k).depth = 0 := by cases k <;> rfl
theorem cr_sortSet (hc : X.calm = true) (hu : X.A.units + 64 < cLine) : CallR X (.builtin "sorted") (rSortSet X.prog X.w) := by
  intro pins s σ H xs us Q I r h
  obtain ⟨a, L, rfl, ea, hl, al, q⟩ := h
  cases r with | cons r1 rt => ?_
  cases rt
  cases r1
  have R := setL_at I ea
  obtain ⟨nd, o, es, ep, t, ks, eo, xo, dd, pe, pm, sb, fi, ri, le⟩ := R
  have hh : X.A.handled = none := I.ok.hd hc
  refine Calls.call_function_entry kind_sorted plain_sorted entry_sorted (args_sorted1 _) ?_
  unfold Builtin.«sorted»
  refine wpAny_bind (m := checkCount "sorted" 1 1 _) (wpAny_pure ?_)
  refine wpAny_bind (collect_set (A := X.A.in1) hh ⟨o, eo, xo.1, dd⟩ fi sb ri le fun s1 vs k1 hz g1 o1 pv => ?_)
  obtain ⟨ks1, ev, pk1⟩ := each_perm pv (each_of pe)
  have pkL : ks1.Perm L := pk1.trans pm
  have hvl : vs.length ≤ 100000 := by rw [each_length ev, pkL.length_eq]; exact hl
  have hline : vs.length ≤ sizeLine := Nat.le_trans hvl (by decide)
  refine wpAny_bind (wpAny_newList ?_ hline)
  have eoL : (s1.heap.push (seqObj "list" vs.toArray 0)).get? s1.heap.objs.size = some (seqObj "list" vs.toArray 0) := Heap.get?_push_size _ rfl
  refine wpAny_bind (wpAny_holding (PySem.W.list_sort_data (R := fun v k => keyIs k v = true) (enc := kPy) eoL ev (ev.mono fun v k e => ⟨[], kPy_reads e, by simp⟩) ?_ (.inr fun d hd => ?_) (by rw [← each_length ev]; exact hline) (fun k hk => ?_) fun out hlen hout => ?_))
  · intro d hd d' hd'
    exact al d ((pkL.map kPy).mem_iff.mp hd) d' ((pkL.map kPy).mem_iff.mp hd')
  · obtain ⟨k, _, rfl⟩ := List.mem_map.mp hd
    cases k <;> exact ⟨(fun z => nomatch z), fun xs z => nomatch z⟩
  · rw [kPy_depth]; show X.A.units + 1 + 1 + 0 < cLine; omega
  · obtain ⟨c, ec⟩ := sortedHeap_at (vs := vs) (out := out.toArray) eoL
    have hp : H s1.heap.objs.size = none := I.hok.fresh hz
    refine wpAny_pure ⟨_, rfl, ?_⟩
    have kp : ∀ b u, s.heap.get? b = some u → (sortedHeap (s1.heap.push (seqObj "list" vs.toArray 0)) s1.heap.objs.size vs out.toArray).get? b = some u := fun b u e => by
      have e1 := k1 b u e
      have lt := Heap.lt_size e1
      rw [sortedHeap_old (Nat.ne_of_lt lt) (by rw [size_push']; exact Nat.lt_succ_of_lt lt)]
      exact Heap.get?_push_of_some _ e1
    have vo : Vals ((ks1.mergeSort (PySem.W.dataLe false kPy)).map kV) out := vals_each hout
    have ho : ObjOk X.prog X.w (upd H s1.heap.objs.size (.lst ((ks1.mergeSort (PySem.W.dataLe false kPy)).map kV))) (sortedHeap (s1.heap.push (seqObj "list" vs.toArray 0)) s1.heap.objs.size vs out.toArray) s1.heap.objs.size (.lst ((ks1.mergeSort (PySem.W.dataLe false kPy)).map kV)) := by
      refine ⟨by rw [Vals.length vo, hlen, ← each_length ev]; exact hline, out, c, vo, ?_⟩
      exact ec
    obtain ⟨h1, g1', d1, t1, o1'⟩ := s1
    obtain ⟨h2, g2, d2, t2, o2⟩ := s
    have o1 : o1' = o2 := o1
    have g1 : g1' = g2 := g1
    subst o1 g1
    refine ⟨.ref _, _, ?_, rfl, q ks1 _ pkL hp⟩
    have J := I.call (ch := []) (g' := g1') (d' := d1) (t' := t1) (Un.laid (o := .lst ((ks1.mergeSort (PySem.W.dataLe false kPy)).map kV)) kp hz hp) (I.hok.laid kp hz ho) I.bare (fun _ z => nomatch z)
    exact J
end
end Zs

set_option Elab.async false
set_option linter.all false
set_option maxRecDepth 100000
set_option maxHeartbeats 2000000
/-! Zv: comprehensions of sets in states of Zi. -/
namespace Zi
open PySem PySem.Spec PyProof.Rows L2 Ly Lc Zs
variable [Zi.Wd]
/-- a loop of a clause -/
theorem cl_it {J : It} {n : Nat} {G : Hp → Prop} {Y : Nat → Hp → V → Hp → Prop} (w : Walk J n G Y) {g : TG} {tt : TT} {t : TCl} {vs : List Nat} {σ : L2.St} {H1 : Hp} {Qd : Hp → Prop} (Pv : Nat → Hp → Prop) (h0 : Pv 0 H1) (hG : ∀ i H, i ≤ n → Pv i H → G H)
    (hs : ∀ i x H H' (N : Hp → Prop), (∀ H, Pv (i + 1) H → N H) → i < n → Pv i H → Y i H x H' → g x (L2.wipe σ vs) H' fun σ2 H2 => L2.wipe σ2 vs = L2.wipe σ vs ∧ tt σ2 H2 fun b H3 => if b = true then t σ2 H3 N else N H3) (hd : ∀ H, Pv n H → Qd H) :
    ∃ W : Nat → Nat → Hp → Prop, (∃ m, W 0 m H1) ∧ ∀ i m H, W i m H →
      (J.stop i H ∧ Qd H) ∨ (J.go i H ∧ ∃ Nx : Hp → Prop, (∀ H', Nx H' → ∃ m', m' < m ∧ W (i + 1) m' H') ∧ ∀ x H', J.yld i H x H' → g x (L2.wipe σ vs) H' fun σ2 H2 => L2.wipe σ2 vs = L2.wipe σ vs ∧ tt σ2 H2 fun b H3 => if b = true then t σ2 H3 Nx else Nx H3) := by
  refine ⟨fun i m H => m = n - i ∧ i ≤ n ∧ Pv i H, ⟨n, by simp, Nat.zero_le _, h0⟩, ?_⟩
  rintro i m H ⟨rfl, hi, p⟩
  have q := hG i H hi p
  by_cases hlt : i < n
  · exact .inr ⟨w.goes i H hlt q, Pv (i + 1), fun H' p' => ⟨n - (i + 1), by omega, rfl, hlt, p'⟩, fun x H' y => hs i x H H' _ (fun _ z => z) hlt p (w.yields i H x H' hlt q y)⟩
  · have e : i = n := by omega
    subst e
    exact .inl ⟨w.stops H q, hd H p⟩
section
variable {Z : EX} {K : PySem.W.Frag} {P : Program} {w : World} {B : Bs} {F F' H H' : Hp} {al al' : Nat → Addr} {s s' : AS} {σ σ' : L2.St} {Dl : Addr}
abbrev ACl := AS → List Key → (AS → List Key → Prop) → Prop
def RCl (Z : EX) (P : Program) (w : World) (t : Addr → TCl) (a : ACl) : Prop := ∀ B, Okx B Z → ∀ F al s σ H Dl acc (Nx : Hp → Prop) k, Rel B F al s σ H → Apart B F al s σ Dl → H Dl = some (SetL P w acc Dl) → a s acc k →
  (∀ F' al' s' H' acc', Ext F F' al al' s.st.length s'.st.length → Rel B F' al' s' σ H' → Apart B F' al' s' σ Dl → H' Dl = some (SetL P w acc' Dl) → k s' acc' → Nx H') → t Dl σ H Nx
def aPutS (e : AE) : ACl := fun s acc k => e s fun r s1 => pk s1 r fun d => match keyOf d with
  | some q => acc.length + 1 < scanBound ∧ k s1 (plus acc q)
  | none => False
theorem Rel.other {o : HO} (X : Rel B F al s σ H) (A : Apart B F al s σ Dl) : Rel B F al s σ (upd H Dl o) := X.heap fun b u e hb => by
  rw [upd_ne]
  · exact e
  · rintro rfl
    rcases hb with z | z | ⟨n, z1, z2⟩ | ⟨j, c', z1, z2⟩
    · rw [A.g] at z; cases z
    · rw [A.f] at z; cases z
    · exact A.a n z1 z2
    · exact A.e j c' z1 z2
theorem RCl.put {te : TE} {e : AE} (he : RE Z te e) : RCl Z P w (fun D σ H Nx => te σ H fun y H7 => rPut P w D y H7 Nx) (aPutS e) := fun B hB F al s σ H Dl acc Nx k X A eD h q => by
  refine he (B.gd Dl (SetL P w acc Dl)) (hB.gd A.g) F al s σ H _ _ (X.guard A eD) h ?_
  intro r s1 F1 al1 H1 v1 x1 X1 rv1 h1
  obtain ⟨d, e1, h1⟩ := pk_ok h1
  have tv := X1.peek rv1 e1
  obtain ⟨X2, eD2, A2⟩ := X1.unguard A.g
  split at h1
  · rename_i q' eq
    refine ⟨q', acc, keyOf_v eq tv, eD2, h1.1, ?_⟩
    refine q F1 al1 s1 _ (plus acc q') x1 (X2.other A2) A2 upd_same h1.2
  · exact h1.elim
def clGo (t : Tgt) (c : AT) (inner : ACl) (vs : List Nat) (k : AS → List Key → Prop) : List D → AS → List Key → Prop
  | [], s, acc => k s acc
  | d :: ds, s, acc => match bindT t d s.env with
    | some env' => c ⟨env', s.st⟩ fun b s1 => if b = true then inner s1 acc fun s2 acc' => clGo t c inner vs k ds ⟨wipeE s2.env vs, s2.st⟩ acc' else clGo t c inner vs k ds ⟨wipeE s1.env vs, s1.st⟩ acc
    | none => False
def clG (t : Tgt) (c : AT) (inner : ACl) (vs : List Nat) (k : AS → List Key → Prop) (ds : List D) (s : AS) (acc : List Key) (_ : Tag k) : Prop := clGo t c inner vs k ds s acc
def aCl (ai : AI) (t : Tgt) (c : AT) (inner : ACl) (vs : List Nat) : ACl := fun s acc k => ai s fun ds s1 => clG t c inner vs k ds ⟨wipeE s1.env vs, s1.st⟩ acc ⟨⟩
theorem Apart.wipe {vs : List Nat} (A : Apart B F al s σ Dl) : Apart B F al ⟨wipeE s.env vs, s.st⟩ (L2.wipe σ vs) Dl := ⟨A.g, A.f, A.a, fun j c ej hj => by
  rcases wipeE_get ej with z | ⟨z1, z2⟩
  · cases z
  · rw [wipe_out z1] at hj; exact A.e j c z2 hj⟩
/-- the loop of a clause, from a state whose slots vs are wiped -/
theorem cl_loop {g : TG} {t : Tgt} {tt : TT} {c : AT} {tc : Addr → TCl} {inner : ACl} {vs : List Nat} (hg : RG g t) (hc : RT Z tt c) (hin : RCl Z P w tc inner) (hv : ∀ j ∈ slots t, j ∈ vs)
    {B : Bs} (hB : Okx B Z) {F1 : Hp} {al1 : Nat → Addr} {s1 : AS} {H1 : Hp} {acc0 : List Key} {ds : List D} {k : AS → List Key → Prop} {J : It} {G : Hp → Prop} {Y : Nat → Hp → V → Hp → Prop}
    (X1 : Rel B F1 al1 s1 (L2.wipe σ vs) H1) (A1 : Apart B F1 al1 s1 (L2.wipe σ vs) Dl) (eD : H1 Dl = some (SetL P w acc0 Dl)) (wk : Walk J ds.length G Y) (hG : ∀ H2, Same F1 H2 → G H2) (hY : ∀ i H1 x H2, i < ds.length → Same F1 H1 → Y i H1 x H2 → YOk F1 H1 ds i x H2)
    (h1 : clGo t c inner vs k ds s1 acc0) {Qd : Hp → Prop} (hd : ∀ F' al' s' H' acc', Ext F1 F' al1 al' s1.st.length s'.st.length → Rel B F' al' s' (L2.wipe σ vs) H' → Apart B F' al' s' (L2.wipe σ vs) Dl → H' Dl = some (SetL P w acc' Dl) → k s' acc' → Qd H') :
    ∃ W : Nat → Nat → Hp → Prop, (∃ m, W 0 m H1) ∧ ∀ i m H, W i m H →
      (J.stop i H ∧ Qd H) ∨ (J.go i H ∧ ∃ Nx : Hp → Prop, (∀ H', Nx H' → ∃ m', m' < m ∧ W (i + 1) m' H') ∧ ∀ x H', J.yld i H x H' → g x (L2.wipe σ vs) H' fun σ2 H2 => L2.wipe σ2 vs = L2.wipe σ vs ∧ tt σ2 H2 fun b H3 => if b = true then tc Dl σ2 H3 Nx else Nx H3) := by
  have hB1 := hB.re X1.ex
  have X1' := X1.re
  have un : ∀ {F' al' s' σ' H'}, Rel (B.re F1 al1 s1.st.length) F' al' s' σ' H' → Rel B F' al' s' σ' H' := fun X' => X'.un X1.ex
  have A1' : Apart (B.re F1 al1 s1.st.length) F1 al1 s1 (L2.wipe σ vs) Dl := ⟨A1.g, A1.f, A1.a, A1.e⟩
  have unA : ∀ {F' al' s' σ'}, Apart (B.re F1 al1 s1.st.length) F' al' s' σ' Dl → Apart B F' al' s' σ' Dl := fun A => ⟨A.g, A.f, A.a, A.e⟩
  generalize hB' : B.re F1 al1 s1.st.length = B1 at hB1 X1' un A1' unA
  have BF : B1.F = F1 := by rw [← hB']; rfl
  have BA : B1.al = al1 := by rw [← hB']; rfl
  have BL : B1.L = s1.st.length := by rw [← hB']; rfl
  refine cl_it wk (fun i H' => ∃ F' al' s' acc, Rel B1 F' al' s' (L2.wipe σ vs) H' ∧ Apart B1 F' al' s' (L2.wipe σ vs) Dl ∧ H' Dl = some (SetL P w acc Dl) ∧ clGo t c inner vs k (ds.drop i) s' acc) ⟨F1, al1, s1, acc0, X1', A1', eD, h1⟩ ?_ ?_ ?_
  · rintro i H' _ ⟨F', al', s', acc, X', _⟩
    exact hG H' fun a o e => X'.sm a o (X'.ex.ff a o (by rw [BF]; exact e))
  · rintro i y H' H2 N hN hlt ⟨F', al', s', acc, X', ap, hD, h'⟩ yl
    have f1 : Same F1 F' := fun a o e => X'.ex.ff a o (by rw [BF]; exact e)
    have Xg := X'.guard ap hD
    have hBg := hB1.gd (o := SetL P w acc Dl) ap.g
    obtain ⟨F2, d, x2, X2, e1, dv, k2⟩ := Xg.item (F1 := F1) f1 (hY i H' y H2 hlt (fun a o e => X'.sm a o (f1 a o e)) yl)
    have hdr : ds.drop i = d :: ds.drop (i + 1) := by
      obtain ⟨hl, e⟩ := List.getElem?_eq_some_iff.mp e1
      rw [← e]; exact List.drop_eq_getElem_cons hl
    rw [hdr] at h'
    unfold clGo at h'
    cases z : bindT t d s'.env with
    | none => rw [z] at h'; exact h'.elim
    | some env' =>
      rw [z] at h'
      refine hg _ F2 al' s' _ H2 _ _ d env' X2 dv z fun σ3 X3 w3 => ?_
      have w3' : L2.wipe σ3 vs = L2.wipe σ vs := by rw [w3 vs hv]; exact wipe_wipe
      refine ⟨w3', ?_⟩
      refine hc _ hBg F2 al' _ σ3 H2 _ _ X3 h' ?_
      intro b s4 F4 al4 H4 x4 X4 h4
      obtain ⟨X5, hD5, ap5⟩ := X4.unguard ap.g
      cases b with
      | false =>
        have X6 := X5.wipe (vs := vs)
        have A6 := ap5.wipe (vs := vs)
        rw [w3'] at X6 A6
        exact hN _ ⟨F4, al4, _, acc, X6, A6, hD5, h4⟩
      | true =>
        refine hin B1 hB1 F4 al4 s4 σ3 H4 Dl acc N _ X5 ap5 hD5 h4 ?_
        intro F5 al5 s5 H5 acc' x5 X7 A7 hD7 h7
        have X8 := X7.wipe (vs := vs)
        have A8 := A7.wipe (vs := vs)
        rw [w3'] at X8 A8
        exact hN _ ⟨F5, al5, _, acc', X8, A8, hD7, h7⟩
  · rintro H' ⟨F', al', s', acc, X', ap, hD, h'⟩
    rw [List.drop_length] at h'
    unfold clGo at h'
    have ex1 : Ext F1 F' al1 al' s1.st.length s'.st.length := by
      have := X'.ex
      rw [BF, BA, BL] at this
      exact this
    exact hd F' al' s' H' acc ex1 (un X') (unA ap) hD h'
theorem RCl.cl {ti : TI} {ai : AI} {g : TG} {t : Tgt} {tt : TT} {c : AT} {tc : Addr → TCl} {inner : ACl} {vs : List Nat} (hi : RI Z ti ai) (hg : RG g t) (hc : RT Z tt c) (hin : RCl Z P w tc inner) (hv : ∀ j ∈ slots t, j ∈ vs) :
    RCl Z P w (fun D => tCl ti g tt (tc D) vs) (aCl ai t c inner vs) := fun B hB F al s σ H Dl acc Nx k X A eD h q => by
  refine hi (B.gd Dl (SetL P w acc Dl)) (hB.gd A.g) F al s σ H _ _ (X.guard A eD) h ?_
  intro ds s1 F1 al1 H1 J G Y x1 X1 wk hG hY h1
  obtain ⟨X2, eD2, A2⟩ := X1.unguard A.g
  refine cl_loop hg hc hin hv hB X2.wipe A2.wipe eD2 wk hG hY h1 ?_
  intro F' al' s' H' acc' x' X' A' eD' h'
  have sub : ∀ (j : Nat) (e : Sl), s'.env[j]? = some e → e = .no ∨ (s'.env[j]? = some e ∧ σ[j]? = (L2.wipe σ vs)[j]?) ∨ ∃ w, e = .v w ∧ ∃ v, σ[j]? = some (some v) ∧ WV F' al' s'.st.length w v := fun j e he => by
    cases e with
    | no => exact .inl rfl
    | v w =>
      obtain ⟨v, h1, h2⟩ := X'.ev j w he
      exact .inr (.inr ⟨w, rfl, v, (wipe_some h1).1, h2⟩)
    | own c =>
      obtain ⟨a, ha, _⟩ := X'.eo j c he
      have z := wipe_some ha
      exact .inr (.inl ⟨he, by rw [wipe_out z.2]⟩)
  have X3 : Rel B F' al' s' σ H' := X'.sub (by rw [← wipe_length σ vs]; exact X'.le) sub
  refine q F' al' s' H' acc' (x1.trans x') X3 ⟨A'.g, A'.f, A'.a, fun j c ej hj => ?_⟩ eD' h'
  rcases sub j _ ej with z | ⟨z1, z2⟩ | ⟨w, z1, _⟩
  · cases z
  · exact A'.e j c ej (by rw [← z2]; exact hj)
  · cases z1
/-- sorted of a set comprehension -/
def kDs (ks : List Key) : List D := ks.map kD
def aSortSet (ai : AI) (t : Tgt) (c : AT) (inner : ACl) (vs : List Nat) : AN := fun s A => ai s fun ds s1 => clG t c inner vs (fun s2 L => L.length ≤ 100000 ∧ PySem.W.AllAlike (L.map kPy) ∧
  ∀ ks : List Key, ks.Perm L → A (.new (.lst (kDs (ks.mergeSort (PySem.W.dataLe false kPy))))) ⟨backE s1.env s2.env vs, s2.st⟩) ds ⟨wipeE s1.env vs, s1.st⟩ [] ⟨⟩
theorem kDs_dv : ∀ ks : List Key, DvAll F (ks.map kV) (kDs ks)
  | [] => .nil
  | k :: ks => by
    refine .cons ?_ (kDs_dv ks)
    cases k with
    | inl i => exact .int i
    | inr x => exact .str x
theorem RN.sortSet {ti : TI} {ai : AI} {g : TG} {t : Tgt} {tt : TT} {c : AT} {tc : Addr → TCl} {inner : ACl} {vs : List Nat} (hi : RI Z ti ai) (hg : RG g t) (hc : RT Z tt c) (hin : RCl Z P w tc inner) (hv : ∀ j ∈ slots t, j ∈ vs) :
    RN Z (tCB (rSortSet P w) (tCons (tComp ti g tt tc vs (SetL P w [])) tNil)) (aSortSet ai t c inner vs) := fun B hB F al s σ H Q A X h q => by
  refine hi B hB F al s σ H _ _ X h ?_
  intro ds s1 F1 al1 H1 J G Y x1 X1 wk hG hY h1 Dl nD
  have A1 := X1.apart nD
  refine cl_loop hg hc hin hv hB ((X1.other A1).wipe) A1.wipe upd_same wk hG hY h1 ?_
  intro F' al' s' H' L x' X' A' eD' h'
  refine ⟨Dl, L, rfl, eD', h'.1, h'.2.1, fun ks p pm np => ?_⟩
  have sub : ∀ (j : Nat) (e : Sl), (backE s1.env s'.env vs)[j]? = some e → e = .no ∨ (s'.env[j]? = some e ∧ σ[j]? = (L2.wipe σ vs)[j]?) ∨ ∃ w, e = .v w ∧ ∃ v, σ[j]? = some (some v) ∧ WV F' al' s'.st.length w v := fun j e he => by
    rcases backE_get he with z | ⟨z1, z2⟩ | ⟨w, z1, z2⟩
    · exact .inl z
    · exact .inr (.inl ⟨z2, (wipe_out z1).symm⟩)
    · obtain ⟨v, h1, h2⟩ := X1.ev j w z2
      exact .inr (.inr ⟨w, z1, v, h1, h2.ext x'⟩)
  have X3 : Rel B F' al' ⟨backE s1.env s'.env vs, s'.st⟩ σ H' := X'.sub (by rw [backE_len, ← wipe_length σ vs]; exact X'.le) sub
  exact q (.new (.lst _)) ⟨backE s1.env s'.env vs, s'.st⟩ F' al' _ _ (x1.trans x') (X3.newL np (kDs_dv _)).1 (X3.newL np (kDs_dv _)).2 (h'.2.2 ks pm)
end
end Zi

set_option Elab.async false
set_option linter.all false
set_option maxRecDepth 100000
set_option maxHeartbeats 2000000
/-! Zw: the least of a list, sorted of a list, isinstance, slices stored. -/
namespace Zs
open PySem PySem.Spec PyProof.Rows L2 Ly
variable [Zi.Wd]
open PySem.W (minD AlikeAll)
section
variable {X : Cx}
/-- min(xs): xs not empty, of data that can be compared -/
def rMinD (K : PySem.W.Frag) : List V → Hp → VK → Prop := fun xs H Q => ∃ (a : Addr) (vs : List V) (d : PyData) (ds : List PyData), xs = [.ref a] ∧ SqL K H a vs ∧ DpAll K H vs (d :: ds) ∧ AlikeAll (d :: ds) ∧ PyData.depthAll (d :: ds) ≤ 60 ∧
  ∀ (i : Nat) v, vs[i]? = some v → (d :: ds)[i]? = some (minD d ds) → Q v H
theorem cr_minD (hc : X.calm = true) (hu : X.A.units + 64 < cLine) : CallR X (.builtin "min") (rMinD X.K) := by
  intro pins s σ H xs us Q I r h
  obtain ⟨a, vs, d, ds, rfl, hs, dp, al, hd, q⟩ := h
  cases r with | cons r1 rt => ?_
  cases rt
  cases r1
  obtain ⟨its, rv, hl, hz⟩ := I.list hs
  obtain ⟨as, ra⟩ := Dp.readsAll I (d :: ds) vs its dp rv
  refine PySem.W.min_list_data (I.ok.hd hc) hl.isList ra al (by omega) fun i v h' tk bs ei rd kp => ?_
  have ei : its[i]? = some v := by simpa using ei
  obtain ⟨cs, r2, hi, _, _⟩ := PySem.W.readsAll_at ra i v ei
  have hget : (d :: ds)[i]? = some ((d :: ds).getD i .none) := by
    rw [List.getD_eq_getElem?_getD, List.getElem?_eq_getElem hi]; rfl
  have e := (PyProof.Rows.reads_det (fun b o e _ => e) (Reads.keeps kp r2) rd).1
  have hj : i < vs.length := by rw [rv.length]; exact (List.getElem?_eq_some_iff.mp ei).1
  obtain ⟨u, hu', ru⟩ := rv.get (List.getElem?_eq_getElem hj)
  rw [ei] at hu'; cases hu'
  refine ⟨vs[i], H, I.kept (h' := h') (t' := tk) kp, ru, q i _ (List.getElem?_eq_getElem hj) ?_⟩
  rw [hget, ← e]
/-- sorted(xs) -/
def encB (b : V × PyData) : PyData := b.2
def rSortD (K : PySem.W.Frag) : List V → Hp → VK → Prop := fun xs H Q => ∃ (a : Addr) (bs : List (V × PyData)), xs = [.ref a] ∧ SqL K H a (bs.map (·.1)) ∧ (∀ b ∈ bs, Dp K H b.1 b.2) ∧ PySem.W.AllAlike (bs.map encB) ∧ PySem.W.Sortable (bs.map encB) ∧ (∀ b ∈ bs, b.2.depth ≤ 60) ∧
  ∀ p, H p = none → Q (.ref p) (upd H p (.lst ((bs.mergeSort (PySem.W.dataLe false encB)).map (·.1))))
theorem each_vals : ∀ {bs : List (V × PyData)} {us : List Value}, Vals (bs.map (·.1)) us → PySem.W.EachIs (fun v (b : V × PyData) => RelV b.1 v) us bs
  | [], _, h => by cases h; exact .nil
  | b :: bs, _, h => by
    cases h with | cons h1 h2 => ?_
    exact .cons h1 (each_vals h2)
theorem vals_eachB : ∀ {bs : List (V × PyData)} {us : List Value}, PySem.W.EachIs (fun v (b : V × PyData) => RelV b.1 v) us bs → Vals (bs.map (·.1)) us
  | _, _, .nil => .nil
  | _, _, .cons h t => .cons h (vals_eachB t)
theorem each_in {α β : Type} {R : α → β → Prop} : ∀ {us : List α} {ks : List β}, PySem.W.EachIs R us ks → PySem.W.EachIs (fun a b => R a b ∧ b ∈ ks) us ks
  | _, _, .nil => .nil
  | _, _, .cons x t => .cons ⟨x, List.mem_cons_self⟩ ((each_in t).mono fun _ _ z => ⟨z.1, List.mem_cons_of_mem _ z.2⟩)
theorem cr_sortD (hu : X.A.units + 64 < cLine) : CallR X (.builtin "sorted") (rSortD X.K) := by
  intro pins s σ H xs us Q I r h
  obtain ⟨a, bs, rfl, hs, dp, al, so, hd, q⟩ := h
  cases r with | cons r1 rt => ?_
  cases rt
  cases r1
  obtain ⟨its, rv, hl, hz⟩ := I.list hs
  have ev := each_vals rv
  rw [List.length_map] at hz
  refine PySem.W.sorted_data (enc := encB) hl.isList ev ((each_in ev).mono fun v b z => Dp.reads I b.2 b.1 v (dp b z.2) z.1) al so hz (fun b hb => ?_) fun out hlen hout => ?_
  · have := hd b hb
    show X.A.units + 2 + b.2.depth < cLine
    omega
  · obtain ⟨ep, he'⟩ := PyProof.Rows.sortedAll_at s.heap its out.toArray
    have vo := vals_eachB hout
    have ho : ObjOk X.prog X.w (upd H (s.heap.objs.size + 1) (.lst ((bs.mergeSort (PySem.W.dataLe false encB)).map (·.1)))) (sortedAll s.heap its out.toArray) (s.heap.objs.size + 1) (.lst ((bs.mergeSort (PySem.W.dataLe false encB)).map (·.1))) :=
      ⟨by rw [Vals.length vo, hlen]; exact hz, out, ep, vo, he'⟩
    exact ⟨.ref _, _, I.laid (t' := s.toks) (fun _ _ => PyProof.Rows.sortedAll_old) (Nat.le_succ _) ho, rfl, q _ (I.hok.fresh (Nat.le_succ _))⟩
/-- o[a:c] = v, v a list -/
def gSlc (to tl th : TE) : TG := fun v σ H Q => to σ H fun o H1 => tl σ H1 fun i H2 => th σ H2 fun j H3 => ∃ (l b : Addr) (xs ys : List V) (m n : Int), o = .ref l ∧ v = .ref b ∧ i = .int m ∧ j = .int n ∧ H3 l = some (.lst xs) ∧ H3 b = some (.lst ys) ∧ l ≠ b ∧ 0 ≤ m ∧ m ≤ n ∧ n ≤ xs.length ∧
  xs.length + ys.length ≤ sizeLine ∧ Q σ (upd H3 l (.lst (xs.take m.toNat ++ ys ++ xs.drop n.toNat)))
theorem pg_slc {o lo hi : Expr} {to tl th : TE} {pos p2 : Pos} (ho : PE X o to) (hl : PE X lo tl) (hh : PE X hi th)
    (ha : ∀ v, assign (.Subscript o (.Slice (some lo) (some hi) none p2) pos) X.env v = (do
      let ov ← holding [v] (eval o X.env)
      let iv ← holding [v, ov] (eval (.Slice (some lo) (some hi) none p2) X.env)
      standAt pos
      holding [v, ov, iv] (setItem ov iv v)
      release [iv, v, ov] []) := by intro _; rfl) : PG X (.Subscript o (.Slice (some lo) (some hi) none p2) pos) (gSlc to tl th) := by
  refine ⟨fun pins s σ H v u Q I r h => ?_⟩
  rw [ha]
  refine wpAny_bind (wpAny_holding (thn (ho.run pins s σ H _ I h) fun ov s1 ⟨x, H1, I1, r1, q1⟩ => ?_))
  refine wpAny_bind (wpAny_holding ?_)
  refine wpAny_Slice ?_
  rw [evalPart_some]
  refine thn (hl.run pins s1 σ H1 _ I1 q1) fun vl s2 ⟨y, H2, I2, r2, q2⟩ => ?_
  rw [evalPart_some]
  refine thn (hh.run pins s2 σ H2 _ I2 q2) fun vu s3 ⟨z, H3, I3, r3, l, b, xs, ys, m, n, ex, ev, ey, ez, e1, e2, ne, h0, h1, h2, h3, q3⟩ => ?_
  subst ex ev ey ez
  rw [evalPart_none]
  refine wpAny_pure ?_
  have I4 : Inv X pins σ H3 { s3 with heap := s3.heap.push { cls := .type "slice", data := .fields #[vl, vu, .none] } } := I3.kept (t' := s3.toks) fun b ob q => Heap.get?_push_of_some _ q
  cases r1
  cases r
  refine wpAny_bind (wpAny_standAt (wpAny_bind (wpAny_holding ?_)))
  refine set_slice I4 e1 e2 ne (Heap.IsSliceOf.new ..) r2 r3 h0 h1 h2 h3 fun s' I5 => ?_
  exact wpAny_release ⟨σ, _, I5, q3⟩
end
end Zs
namespace Zi
open PySem PySem.Spec PyProof.Rows L2 Ly Zs
variable [Zi.Wd]
open PySem.W (minD AlikeAll)
section
variable {Z : EX} {K : PySem.W.Frag} {B : Bs} {F F' H H' : Hp} {al al' : Nat → Addr} {s s' : AS} {σ σ' : L2.St}
theorem tyN_x {v : V} {d : D} (h : Tv F H v d) (sm : Same F H) (hd : tyN d ≠ "") : TyX K H v (.type (tyN d)) := by
  cases d with
  | non => cases (show Dv F v .non from h).nonE; exact .base .non
  | bl b => cases h.blE; exact .base (.bl b)
  | int i => cases h.intE; exact .base (.int i)
  | str x => cases h.strE; exact .base (.str x)
  | lst ds => obtain ⟨a, vs, rfl, e, _⟩ := h; exact .base (.lst e)
  | tup ds => obtain ⟨a, vs, rfl, e, _⟩ := h; exact .base (.tup e)
  | dic ks ds => obtain ⟨a, vs, rfl, e, _⟩ := h; exact .base (.dK e)
  | ins C ns ds => exact (hd rfl).elim
  | dit t ks ds => exact (hd rfl).elim
theorem RE.isi {ta : TE} {a : AE} {T : String} (hT : kitB "" T = none) (ha : RE Z ta a) : RE Z (tCB (rIsi K) (tCons ta (tCons (tC (.ty T)) tNil))) (aIsi a T) := fun B hB F al s σ H Q A X h q => by
  refine ha B hB F al s σ H _ _ X h ?_
  intro r s1 F1 al1 H1 v1 x1 X1 rv1 h1
  obtain ⟨d, e1, h1⟩ := pk_ok h1
  have tv := X1.peek rv1 e1
  split at h1
  · rename_i b eb
    have hne : tyN d ≠ "" := fun z => by
      rw [z] at eb
      rw [hT] at eb; cases eb
    exact ⟨v1, .ty T, .type (tyN d), .type T, b, rfl, .ty T, tyN_x tv X1.sm hne, kit_ty eb, q (.w (.d (.bl b))) s1 F1 al1 H1 _ x1 X1 (Dv.bl b) h1⟩
  · exact h1.elim
def bMin : List D → (D → Prop) → Prop := fun ds A => match ds with
  | [.lst (x :: xs)] => PyData.plainAll (pyAll (x :: xs)) = true ∧ AlikeAll (py x :: pyAll xs) ∧ PyData.depthAll (pyAll (x :: xs)) ≤ 60 ∧ ∀ (i : Nat) (z : D), (x :: xs)[i]? = some z → py z = minD (py x) (pyAll xs) → A z
  | _ => False
theorem bMin_ok : OB (rMinD K) bMin := fun F H vs ds Q A sm tv h q => by
  unfold bMin at h
  split at h
  · rename_i x xs
    cases tv with | cons t1 t => ?_
    cases t
    obtain ⟨a, us, rfl, ea, dv⟩ := t1
    obtain ⟨h1, h2, h3, h4⟩ := h
    refine ⟨a, us, py x, pyAll xs, rfl, SqL.of ea, ((dv.mono sm).dq h1).dp h1, h2, h3, fun i v hv hi => ?_⟩
    obtain ⟨z, hz, dz⟩ := dv.getV hv
    have e : py z = minD (py x) (pyAll xs) := by
      have : (pyAll (x :: xs))[i]? = some (py z) := by rw [pyAll_map, List.getElem?_map, hz]; rfl
      rw [show py x :: pyAll xs = pyAll (x :: xs) from rfl, this] at hi
      exact Option.some.inj hi
    exact q z v dz (h4 i z hz e)
  · exact h.elim
def sortD (ds : List D) : List D := ds.mergeSort (PySem.W.dataLe false py)
def bSort : List D → (List D → Prop) → Prop := fun ds A => match ds with
  | [.lst xs] => PyData.plainAll (pyAll xs) = true ∧ PySem.W.AllAlike (xs.map py) ∧ PySem.W.Sortable (xs.map py) ∧ (∀ x ∈ xs, (py x).depth ≤ 60) ∧ A (sortD xs)
  | _ => False
theorem Rel.getCf {r : R} {v : V} {c : Cell} (X : Rel B F al s σ H) (h : RV F al s.st.length σ r v) (e : Zi.getC s r = some c) : ∃ a, v = .ref a ∧ F a = none := by
  cases r with
  | w w =>
    cases w with
    | d x => cases e
    | raw u φ => cases e
    | tp us => cases e
    | loc n => exact ⟨_, h.1, (X.cl n c e).2.f⟩
  | sl i =>
    have h : σ[i]? = some (some v) := h
    unfold Zi.getC at e
    simp only at e
    cases q : s.env[i]? with
    | none => rw [q] at e; cases e
    | some z =>
      rw [q] at e
      cases z with
      | no => cases e
      | own c1 =>
        cases e
        obtain ⟨a, ha, _, ⟨f, _⟩, _⟩ := X.eo i c q
        rw [h] at ha; cases ha
        exact ⟨a, rfl, f⟩
      | v w =>
        cases w with
        | d x => cases e
        | raw u φ => cases e
        | tp us => cases e
        | loc n =>
          obtain ⟨u, hu, hw⟩ := X.ev i _ q
          rw [h] at hu; cases hu
          exact ⟨_, hw.1, (X.cl n c e).2.f⟩
/-- o[a:c] = e -/
def aSetSl (e o lo hi : AE) : ASt := fun N s => e s fun r s1 => toW r s1 fun w s2 => o s2 fun ro s3 => lo s3 fun rl s4 => hi s4 fun rh s5 => pk s5 rl fun dl => pk s5 rh fun dh => match w, dl, dh, getC s5 ro with
  | .d (.lst ys), .int m, .int n, some (.lst xs) => 0 ≤ m ∧ m ≤ n ∧ n ≤ xs.length ∧ xs.length + ys.length ≤ sizeLine ∧ N.nx (putC s5 ro (.lst (xs.take m.toNat ++ ys ++ xs.drop n.toNat)))
  | _, _, _, _ => False
theorem RS.setSl {te to tl th : TE} {e o lo hi : AE} (he : RE Z te e) (ho : RE Z to o) (hl : RE Z tl lo) (hh : RE Z th hi) : RS Z (tAsg te (gSlc to tl th)) (aSetSl e o lo hi) := fun B hB D A rd F al s σ H X h => by
  refine he B hB F al s σ H _ _ X h ?_
  intro r s1 F1 al1 H1 v1 x1 X1 rv1 h1
  obtain ⟨F2, al2, w, s2, x2, X2, wv, h2⟩ := toW_ok X1 rv1 h1
  refine ho B hB F2 al2 s2 σ H1 _ _ X2 h2 ?_
  intro ro s3 F3 al3 H3 v3 x3 X3 rv3 h3
  refine hl B hB F3 al3 s3 σ H3 _ _ X3 h3 ?_
  intro rl s4 F4 al4 H4 v4 x4 X4 rv4 h4
  refine hh B hB F4 al4 s4 σ H4 _ _ X4 h4 ?_
  intro rh s5 F5 al5 H5 v5 x5 X5 rv5 h5
  obtain ⟨dl, e1, h6⟩ := pk_ok h5
  obtain ⟨dh, e2, h7⟩ := pk_ok h6
  clear h5 h6
  have tl' := X5.peek (rv4.ext x5) e1
  have th' := X5.peek rv5 e2
  have wv5 := ((wv.ext x3).ext x4).ext x5
  split at h7
  · rename_i ys m n xs eg
    obtain ⟨l, o', rfl, el, hc, pt⟩ := X5.getC ((rv3.ext x4).ext x5) eg
    cases hc with | lst dv => ?_
    obtain ⟨b, vs, rfl, eb, dw⟩ := (show Dv F5 v1 (.lst ys) from wv5).lstE
    obtain ⟨X6, _⟩ := pt _ _ (.lst (((dv.take m.toNat).append dw).append (dv.drop n.toNat)))
    have ne : l ≠ b := fun z => by
      obtain ⟨l', e1, f1⟩ := X5.getCf ((rv3.ext x4).ext x5) eg
      cases e1
      rw [z] at f1
      rw [f1] at eb; cases eb
    exact ⟨l, b, _, vs, m, n, rfl, rfl, tl'.intE, th'.intE, el, X5.sm _ _ eb, ne, h7.1, h7.2.1, by rw [dv.length]; exact h7.2.2.1, by rw [dv.length, dw.length]; exact h7.2.2.2.1, rd.nx F5 al5 _ _ _ X6 h7.2.2.2.2⟩
  · exact h7.elim
end
theorem kit_NoneType_bool : kitB "NoneType" "bool" = some false := by decide +kernel
theorem kit_NoneType_int : kitB "NoneType" "int" = some false := by decide +kernel
theorem kit_NoneType_str : kitB "NoneType" "str" = some false := by decide +kernel
theorem kit_NoneType_list : kitB "NoneType" "list" = some false := by decide +kernel
theorem kit_NoneType_tuple : kitB "NoneType" "tuple" = some false := by decide +kernel
theorem kit_NoneType_dict : kitB "NoneType" "dict" = some false := by decide +kernel
theorem kit_bool_bool : kitB "bool" "bool" = some true := by decide +kernel
theorem kit_bool_int : kitB "bool" "int" = some true := by decide +kernel
theorem kit_bool_str : kitB "bool" "str" = some false := by decide +kernel
theorem kit_bool_list : kitB "bool" "list" = some false := by decide +kernel
theorem kit_bool_tuple : kitB "bool" "tuple" = some false := by decide +kernel
theorem kit_bool_dict : kitB "bool" "dict" = some false := by decide +kernel
theorem kit_int_bool : kitB "int" "bool" = some false := by decide +kernel
theorem kit_int_int : kitB "int" "int" = some true := by decide +kernel
theorem kit_int_str : kitB "int" "str" = some false := by decide +kernel
theorem kit_int_list : kitB "int" "list" = some false := by decide +kernel
theorem kit_int_tuple : kitB "int" "tuple" = some false := by decide +kernel
theorem kit_int_dict : kitB "int" "dict" = some false := by decide +kernel
theorem kit_str_bool : kitB "str" "bool" = some false := by decide +kernel
theorem kit_str_int : kitB "str" "int" = some false := by decide +kernel
theorem kit_str_str : kitB "str" "str" = some true := by decide +kernel
theorem kit_str_list : kitB "str" "list" = some false := by decide +kernel
theorem kit_str_tuple : kitB "str" "tuple" = some false := by decide +kernel
theorem kit_str_dict : kitB "str" "dict" = some false := by decide +kernel
theorem kit_list_bool : kitB "list" "bool" = some false := by decide +kernel
theorem kit_list_int : kitB "list" "int" = some false := by decide +kernel
theorem kit_list_str : kitB "list" "str" = some false := by decide +kernel
theorem kit_list_list : kitB "list" "list" = some true := by decide +kernel
theorem kit_list_tuple : kitB "list" "tuple" = some false := by decide +kernel
theorem kit_list_dict : kitB "list" "dict" = some false := by decide +kernel
theorem kit_tuple_bool : kitB "tuple" "bool" = some false := by decide +kernel
theorem kit_tuple_int : kitB "tuple" "int" = some false := by decide +kernel
theorem kit_tuple_str : kitB "tuple" "str" = some false := by decide +kernel
theorem kit_tuple_list : kitB "tuple" "list" = some false := by decide +kernel
theorem kit_tuple_tuple : kitB "tuple" "tuple" = some true := by decide +kernel
theorem kit_tuple_dict : kitB "tuple" "dict" = some false := by decide +kernel
theorem kit_dict_bool : kitB "dict" "bool" = some false := by decide +kernel
theorem kit_dict_int : kitB "dict" "int" = some false := by decide +kernel
theorem kit_dict_str : kitB "dict" "str" = some false := by decide +kernel
theorem kit_dict_list : kitB "dict" "list" = some false := by decide +kernel
theorem kit_dict_tuple : kitB "dict" "tuple" = some false := by decide +kernel
theorem kit_dict_dict : kitB "dict" "dict" = some true := by decide +kernel
end Zi

set_option Elab.async false
set_option linter.all false
set_option maxRecDepth 100000
set_option maxHeartbeats 1000000
/-! Zx: loops over typed data; sets that grow. -/
namespace Zi
open PySem PySem.Spec PyProof.Rows L2 Ly Zs
variable [Zi.Wd]
section
variable {α : Type}
/-- a comprehension over typed items that changes nothing -/
theorem lcGo_ty {t : Tgt} {c : AT} {e : AE} {vs : List Nat} {k : List D → AS → Prop} {E0 : List Sl} {st : List Cell} (tD : α → D) (f : α → Bool) (g : α → D) (xs : List α) (hl : xs.length ≤ 100000)
    (h : ∀ x ∈ xs, ∃ env', bindT t (tD x) E0 = some env' ∧ wipeE env' vs = E0 ∧ (∀ A : Bool → AS → Prop, A (f x) ⟨env', st⟩ → c ⟨env', st⟩ A) ∧ (f x = true → ∀ A : R → AS → Prop, A (.w (.d (g x))) ⟨env', st⟩ → e ⟨env', st⟩ A))
    (hk : k ((xs.filter f).map g) ⟨E0, st⟩) : lcGo t c e vs k (xs.map tD) ⟨E0, st⟩ [] := by
  have main : ∀ (ys pre : List α), xs = pre ++ ys → lcGo t c e vs k (ys.map tD) ⟨E0, st⟩ ((pre.filter f).map g) := by
    intro ys
    induction ys with
    | nil =>
      intro pre e1
      rw [List.append_nil] at e1
      unfold lcGo
      rw [← e1]; exact hk
    | cons y ys ih =>
      intro pre e1
      obtain ⟨env', h1, h2, h3, h4⟩ := h y (by rw [e1]; simp)
      rw [List.map_cons]
      unfold lcGo
      simp only [h1]
      have e2 : xs = (pre ++ [y]) ++ ys := by rw [e1]; simp
      have ih' := ih (pre ++ [y]) e2
      rw [List.filter_append, List.map_append] at ih'
      refine h3 _ ?_
      cases hf : f y with
      | false =>
        rw [if_neg (by decide), h2]
        rw [List.filter_cons, if_neg (by rw [hf]; decide)] at ih'
        simpa using ih'
      | true =>
        rw [if_pos rfl]
        refine h4 hf _ ?_
        simp only [toW]
        rw [List.filter_cons, if_pos hf] at ih'
        refine ⟨?_, by rw [h2]; exact ih'⟩
        have a1 : ((pre.filter f).map g).length ≤ pre.length := by rw [List.length_map]; exact List.length_filter_le _ _
        have a2 : pre.length ≤ xs.length := by rw [e1, List.length_append]; omega
        exact Nat.lt_of_le_of_lt (Nat.le_trans a1 (Nat.le_trans a2 hl)) (by decide)
  exact main xs [] rfl
/-- a for over typed items -/
theorem forGo_ty {t : Tgt} {b : ASt} {N : AEnds} (tD : α → D) (I : List α → List α → AS → Prop) (xs : List α) (hnil : ∀ s, I xs [] s → N.nx s)
    (hcons : ∀ pre x ys s (k : AS → Prop), xs = pre ++ x :: ys → (∀ s, I (pre ++ [x]) ys s → k s) → I pre (x :: ys) s → match bindT t (tD x) s.env with | some env' => b ⟨k, N.rt, N.nx, k⟩ ⟨env', s.st⟩ | none => False) :
    ∀ s, I [] xs s → forGo t b N (xs.map tD) s := by
  have main : ∀ (ys pre : List α) s, xs = pre ++ ys → I pre ys s → forGo t b N (ys.map tD) s := by
    intro ys
    induction ys with
    | nil =>
      intro pre s e1 h
      rw [List.append_nil] at e1
      unfold forGo
      exact hnil s (by rw [e1]; exact h)
    | cons y ys ih =>
      intro pre s e1 h
      rw [List.map_cons]
      unfold forGo
      exact hcons pre y ys s _ e1 (fun s' h' => ih (pre ++ [y]) s' (by rw [e1]; simp) h') h
  exact fun s h => main xs [] s rfl h
theorem clGo_ty {t : Tgt} {c : AT} {inner : ACl} {vs : List Nat} {k : AS → List Key → Prop} (tD : α → D) (I : List α → List α → AS → List Key → Prop) (xs : List α) (hnil : ∀ s acc, I xs [] s acc → k s acc)
    (hcons : ∀ pre x ys s acc (k' : AS → List Key → Prop), xs = pre ++ x :: ys → (∀ s acc, I (pre ++ [x]) ys s acc → k' s acc) → I pre (x :: ys) s acc → match bindT t (tD x) s.env with
      | some env' => c ⟨env', s.st⟩ fun b s1 => if b = true then inner s1 acc fun s2 acc' => k' ⟨wipeE s2.env vs, s2.st⟩ acc' else k' ⟨wipeE s1.env vs, s1.st⟩ acc
      | none => False) : ∀ s acc, I [] xs s acc → clGo t c inner vs k (xs.map tD) s acc := by
  have main : ∀ (ys pre : List α) s acc, xs = pre ++ ys → I pre ys s acc → clGo t c inner vs k (ys.map tD) s acc := by
    intro ys
    induction ys with
    | nil =>
      intro pre s acc e1 h
      rw [List.append_nil] at e1
      unfold clGo
      exact hnil s acc (by rw [e1]; exact h)
    | cons y ys ih =>
      intro pre s acc e1 h
      rw [List.map_cons]
      unfold clGo
      exact hcons pre y ys s acc _ e1 (fun s' a' h' => ih (pre ++ [y]) s' a' (by rw [e1]; simp) h') h
  exact fun s acc h => main xs [] s acc rfl h
end
theorem mem_plus {κ : Type} [DecidableEq κ] {L : List κ} {k x : κ} : x ∈ plus L k ↔ x = k ∨ x ∈ L := by
  unfold plus
  split
  · rename_i h
    exact ⟨.inr, fun z => z.elim (fun e => e ▸ h) id⟩
  · exact List.mem_cons
theorem plus_len {κ : Type} [DecidableEq κ] {L : List κ} {k : κ} : (plus L k).length ≤ L.length + 1 := by
  unfold plus
  split
  · omega
  · rw [List.length_cons]; omega
theorem plus_map {ts : List Str} {x : Str} : plus (ts.map (Sum.inr : Str → Key)) (Sum.inr x) = (plus ts x).map Sum.inr := by
  unfold plus
  by_cases h : x ∈ ts
  · rw [if_pos h, if_pos (List.mem_map.mpr ⟨x, h, rfl⟩)]
  · rw [if_neg h, if_neg (fun z => by
      obtain ⟨y, hy, e⟩ := List.mem_map.mp z
      cases e; exact h hy)]
    rfl
theorem alike_texts (ts : List Str) : PySem.W.AllAlike ((ts.map (Sum.inr : Str → Key)).map kPy) := by
  intro d hd d' hd'
  rw [List.map_map] at hd hd'
  obtain ⟨a, _, rfl⟩ := List.mem_map.mp hd
  obtain ⟨b, _, rfl⟩ := List.mem_map.mp hd'
  rfl
theorem perm_texts {ts : List Str} {ks : List Key} (h : ks.Perm (ts.map Sum.inr)) : ∃ us : List Str, ks = us.map Sum.inr ∧ us.Perm ts := by
  obtain ⟨l', h1, h2⟩ := Ly.perm_map_ex (Sum.inr : Str → Key) (fun | .inr s => s | _ => "") (fun _ => rfl) h
  exact ⟨l', h1, h2⟩
theorem kDs_texts (us : List Str) : kDs (us.map Sum.inr) = us.map D.str := by
  unfold kDs
  rw [List.map_map]
  rfl
theorem scanBound_big : 4000 < scanBound := by decide
end Zi

set_option Elab.async false
set_option linter.all false
set_option maxRecDepth 100000
set_option maxHeartbeats 1000000
/-! Zy: for over a slot's own list, which comes back to its slot behind the loop; pairs. -/
namespace Zi
open PySem PySem.Spec PyProof.Rows L2 Ly Zs
variable [Zi.Wd]
open PySem.W (minD AlikeAll dataLt)
section
variable {Z : EX} {K : PySem.W.Frag} {B : Bs} {F F' F1 H H' : Hp} {al al' al1 : Nat → Addr} {s s' : AS} {σ σ' : L2.St} {a p : Addr} {o : HO} {i n L : Nat} {st : List Cell}
abbrev lent (a : Addr) : Sl := .v (.raw (.ref a) fun _ => True)
def comesBack (i : Nat) (a : Addr) (ds : List D) (k : AS → Prop) : AS → Prop := fun s => s.env[i]? = some (lent a) ∧ k ⟨s.env.set i (.own (.lst ds)), s.st⟩
/-- for .. in enumerate(x), x the own list of slot i -/
def aForE (i : Nat) (t : Tgt) (b : ASt) : ASt := fun N s => match s.env[i]? with
  | some (.own (.lst ds)) => ∀ a : Addr, forG t b ⟨comesBack i a ds N.nx, N.rt, N.bk, N.ct⟩ (enumD 0 ds) ⟨s.env.set i (lent a), s.st⟩ ⟨⟩
  | _ => False
theorem NV.unguard {n : N} {v : V} (g : B.G p = none) (h : NV (B.gd p o) F al st H n v) : NV B F al st H n v := by
  cases n with
  | w w => exact h
  | new c =>
    obtain ⟨q, rfl, gq, C, ap⟩ := h
    refine ⟨q, rfl, ?_, C, ap⟩
    have gq : upd B.G p o q = none := gq
    by_cases z : q = p
    · subst z; rw [upd_same] at gq; cases gq
    · rw [upd_ne z] at gq; exact gq
theorem RS.forE {i : Nat} {g : TG} {t : Tgt} {tb : TS} {b : ASt} (hg : RG g t) (hb : RS Z tb b) : RS Z (tFor (iEnum K (tCons (tVar i) tNil)) g tb) (aForE i t b) := fun B hB D A rd F al s σ H X h => by
  unfold aForE at h
  split at h
  · rename_i ds e
    obtain ⟨a, ha, C, X1, A1⟩ := X.move e
    obtain ⟨f, o, ho, hc⟩ := id C
    cases hc with | lst dv => ?_
    rename_i vs
    have h := h a
    have X2 := X1.guard A1 ho
    have hB2 := hB.gd (o := .lst vs) A1.g
    have gB : B.G a = none := A1.g
    have X3 := X2.setSame (i := i) (v := .ref a) (w := .raw (.ref a) fun _ => True) ha ⟨rfl, trivial, fun _ _ _ _ => trivial⟩
    rw [show ((⟨s.env.set i .no, s.st⟩ : AS).env.set i (.v (.raw (.ref a) fun _ => True))) = s.env.set i (lent a) from List.set_set ..] at X3
    refine ⟨_, ha, a, vs, rfl, SqL.of ho, ?_⟩
    have hB3 := hB2.re X3.ex
    have X4 := X3.re
    have un : ∀ {F' al' s' σ' H'}, Rel ((B.gd a (.lst vs)).re F al s.st.length) F' al' s' σ' H' → Rel (B.gd a (.lst vs)) F' al' s' σ' H' := fun X' => X'.un X3.ex
    have unS : ∀ {F' al' st' H'}, RelS ((B.gd a (.lst vs)).re F al s.st.length) F' al' st' H' → RelS (B.gd a (.lst vs)) F' al' st' H' := fun X' => X'.un X3.ex
    have gA : ((B.gd a (.lst vs)).re F al s.st.length).G a = some (.lst vs) := upd_same
    have hx : ∀ {F' al' s' σ' H'}, Rel ((B.gd a (.lst vs)).re F al s.st.length) F' al' s' σ' H' → Same F F' := fun X' a o e => X'.ex.ff a o e
    generalize hB' : (B.gd a (.lst vs)).re F al s.st.length = B1 at hB3 X4 un gA hx unS
    have nvB : ∀ {F' al' st' H' n v}, NV B1 F' al' st' H' n v → NV (B.gd a (.lst vs)) F' al' st' H' n v := fun h => by rw [← hB'] at h; exact h
    refine for_it (walk_enum (K := K) (a := a) (xs := vs)) (fun j σ' H' => ∃ F' al' s', Rel B1 F' al' s' σ' H' ∧ forGo t b ⟨comesBack i a ds A.nx, A.rt, A.bk, A.ct⟩ ((enumD 0 ds).drop j) s') ⟨F, al, _, X4, h⟩ ?_ ?_ ?_
    · rintro j σ' H' _ ⟨F', al', s', X', _⟩
      exact SqL.of (X'.sg a _ gA)
    · rintro j y σ' H' H2 hlt ⟨F', al', s', X', h'⟩ ⟨T, x', y', e1, e2, e3, e4, e5⟩
      cases e4
      obtain ⟨d, e6, e7⟩ := dv.getV e5
      have yk : YOk F' H' (enumD 0 ds) j y H2 := .inr ⟨T, _, _, e1, e2, e3, enumD_get e6, .cons (by rw [Nat.zero_add]; exact .int _) (.cons (e7.mono (hx X')) .nil)⟩
      obtain ⟨F2, d2, x2, X2', e8, dv2, _⟩ := X'.item (F1 := F') (fun _ _ e => e) yk
      have hdr : (enumD 0 ds).drop j = d2 :: (enumD 0 ds).drop (j + 1) := by
        obtain ⟨hl, e⟩ := List.getElem?_eq_some_iff.mp e8
        rw [← e]; exact List.drop_eq_getElem_cons hl
      rw [hdr] at h'
      unfold forGo at h'
      cases z : bindT t d2 s'.env with
      | none => rw [z] at h'; exact h'.elim
      | some env' =>
        rw [z] at h'
        refine hg B1 F2 al' s' σ' H2 _ _ d2 env' X2' dv2 z fun σ3 X3' _ => ?_
        refine hb B1 hB3 _ ⟨forGo t b ⟨comesBack i a ds A.nx, A.rt, A.bk, A.ct⟩ ((enumD 0 ds).drop (j + 1)), A.rt, comesBack i a ds A.nx, forGo t b ⟨comesBack i a ds A.nx, A.rt, A.bk, A.ct⟩ ((enumD 0 ds).drop (j + 1))⟩ ?rd F2 al' _ σ3 H2 X3' h'
        refine ⟨?_, ?_, ?_, ?_⟩
        · intro F4 al4 s4 σ4 H4 X4 h4
          exact ⟨F4, al4, s4, X4, h4⟩
        · intro F4 al4 st4 H4 n v X4 nv h4
          exact rd.rt F4 al4 st4 H4 n v (RelS.unguard gB (unS X4)).1 (NV.unguard gB (nvB nv)) h4
        · intro F4 al4 s4 σ4 H4 X4 h4
          obtain ⟨k1, k2⟩ := h4
          have lx := hx X4
          obtain ⟨X5, e9, A5⟩ := (un X4).unguard gB
          obtain ⟨v, hv, ⟨hv2, _⟩⟩ := X5.ev i _ k1
          subst hv2
          have X6 := X5.setN i A5 ⟨A5.f, _, e9, .lst (dv.mono lx)⟩
          rw [set_same hv] at X6
          exact rd.nx F4 al4 _ σ4 H4 X6 k2
        · intro F4 al4 s4 σ4 H4 X4 h4
          exact ⟨F4, al4, s4, X4, h4⟩
    · rintro σ' H' ⟨F', al', s', X', h'⟩
      have hdn : (enumD 0 ds).drop vs.length = [] := by rw [dv.length, ← enumD_length (k := 0)]; exact List.drop_length
      rw [hdn] at h'
      unfold forGo at h'
      obtain ⟨k1, k2⟩ := h'
      have lx := hx X'
      obtain ⟨X5, e9, A5⟩ := (un X').unguard gB
      obtain ⟨v, hv, ⟨hv2, _⟩⟩ := X5.ev i _ k1
      subst hv2
      have X6 := X5.setN i A5 ⟨A5.f, _, e9, .lst (dv.mono lx)⟩
      rw [set_same hv] at X6
      exact rd.nx F' al' _ σ' H' X6 k2
  · exact h.elim
end
section
variable {α : Type}
theorem enumD_map (tD : α → D) : ∀ (k : Nat) (xs : List α), enumD k (xs.map tD) = (xs.zipIdx k).map fun p => .tup [.int (p.2 : Int), tD p.1]
  | _, [] => rfl
  | k, x :: xs => by rw [List.map_cons, enumD, enumD_map tD (k + 1) xs, List.zipIdx_cons, List.map_cons]
end
theorem dget_any {kds : List (Key × D)} {q : Key} : (dget (kds.map fun kv => kD kv.1) (kds.map (·.2)) q).isSome = kds.any fun kv => decide (kv.1 = q) := by
  induction kds with
  | nil => rfl
  | cons kv kds ih =>
    rw [List.map_cons, List.map_cons, dget, isK_k, List.any_cons, ← ih]
    by_cases h : kv.1 = q
    · rw [if_pos (decide_eq_true h), decide_eq_true h]; rfl
    · rw [if_neg (by rw [decide_eq_false h]; decide), decide_eq_false h]; rfl
theorem putZ_any {kds : List (Key × D)} {k q : Key} {v : D} : ((putZ kds k v).any fun kv => decide (kv.1 = q)) = (decide (k = q) || kds.any fun kv => decide (kv.1 = q)) := by
  have mp : ∀ kds : List (Key × D), ((kds.map fun kv => if kv.1 = k then (kv.1, v) else kv).any fun kv => decide (kv.1 = q)) = kds.any fun kv => decide (kv.1 = q) := fun kds => by
    induction kds with
    | nil => rfl
    | cons kv kds ih =>
      rw [List.map_cons, List.any_cons, List.any_cons, ih]
      by_cases h : kv.1 = k
      · rw [if_pos h]
      · rw [if_neg h]
  unfold putZ
  split
  · rename_i h
    rw [mp]
    by_cases e : k = q
    · subst e; rw [h]; simp
    · rw [decide_eq_false e]; rfl
  · rw [List.any_append, List.any_cons, List.any_nil, Bool.or_false, Bool.or_comm]
theorem putZ_len {kds : List (Key × D)} {k : Key} {v : D} : (putZ kds k v).length ≤ kds.length + 1 := by
  unfold putZ
  split
  · rw [List.length_map]; omega
  · rw [List.length_append, List.length_singleton]; omega
/-! ### the least -/
theorem minD_mem (x : PyData) : ∀ xs : List PyData, minD x xs = x ∨ minD x xs ∈ xs := by
  intro xs
  unfold minD
  induction xs generalizing x with
  | nil => exact .inl rfl
  | cons y ys ih =>
    rw [List.foldl_cons]
    split
    · rcases ih y with h | h
      · exact .inr (by rw [h]; exact List.mem_cons_self)
      · exact .inr (List.mem_cons_of_mem _ h)
    · rcases ih x with h | h
      · exact .inl h
      · exact .inr (List.mem_cons_of_mem _ h)
theorem minD_le (x : PyData) : ∀ xs : List PyData, ∀ y, (y = x ∨ y ∈ xs) → dataLt y (minD x xs) = false := by
  intro xs
  unfold minD
  induction xs generalizing x with
  | nil =>
    rintro y (rfl | h)
    · exact lex_irrefl _
    · cases h
  | cons z zs ih =>
    rintro y hy
    rw [List.foldl_cons]
    by_cases q : dataLt z x = true
    · rw [if_pos q]
      rcases hy with rfl | hy
      · -- y = x: z is below it
        cases w : dataLt y (zs.foldl (fun a y => if dataLt y a = true then y else a) z) with
        | false => rfl
        | true =>
          have := ih z z (.inl rfl)
          have tr : dataLt z (zs.foldl (fun a y => if dataLt y a = true then y else a) z) = true := lex_trans _ _ _ q w
          rw [tr] at this; cases this
      · rcases List.mem_cons.mp hy with rfl | hy
        · exact ih y y (.inl rfl)
        · exact ih z y (.inr hy)
    · rw [if_neg q]
      rcases hy with rfl | hy
      · exact ih y y (.inl rfl)
      · rcases List.mem_cons.mp hy with rfl | hy
        · cases w : dataLt y (zs.foldl (fun a y => if dataLt y a = true then y else a) x) with
          | false => rfl
          | true =>
            rcases lex_negTrans _ (PySem.W.keyToks x) _ w with h | h
            · exact (q h).elim
            · have := ih x x (.inl rfl)
              rw [show dataLt x (zs.foldl (fun a y => if dataLt y a = true then y else a) x) = true from h] at this; cases this
        · exact ih x y (.inr hy)
theorem q_bind_nm {i : Nat} {x : D} {env : List Sl} : bindT (.nm i) x env = some (env.set i (.v (.d x))) := by unfold bindT; rfl
theorem q_bind_tp {ts : List Tgt} {ds : List D} {env : List Sl} : bindT (.tp ts) (.tup ds) env = bindTs ts ds env := by unfold bindT; rfl
theorem q_binds_nil {env : List Sl} : bindTs [] [] env = some env := by unfold bindTs; rfl
theorem q_binds_cons {t : Tgt} {ts : List Tgt} {d : D} {ds : List D} {env : List Sl} : bindTs (t :: ts) (d :: ds) env = (match bindT t d env with
    | some env' => bindTs ts ds env'
    | none => none) := by
  conv => lhs; unfold bindTs
  all_goals (cases bindT t d env <;> rfl)
end Zi

set_option Elab.async false
set_option linter.all false
set_option maxRecDepth 100000
set_option maxHeartbeats 1000000
/-! Zd: dicts by their entries (keys tuples, or ints and texts): the heap's part. -/
namespace Zi
open PySem PySem.Spec PyProof.Rows L2 Ly
variable [Zi.Wd]
section
variable {P : Program} {H : Hp} {h h' : Heap}
mutual
theorem nk_is (ok : HOk P Wd.w H h) : ∀ {v : V} {d : D} {k : NestedKey} {u : Value}, Dv H v d → nk d = some k → RelV v u → NestedIs h k u
  | _, _, _, _, .non, e, _ => by simp [nk] at e
  | _, _, _, _, .bl _, e, _ => by simp [nk] at e
  | _, _, _, _, .int i, e, r => by
    simp only [nk, Option.some.injEq] at e
    subst e
    obtain ⟨t, rfl⟩ := r
    exact .int i t
  | _, _, _, _, .str x, e, r => by
    simp only [nk, Option.some.injEq] at e
    subst e
    obtain ⟨t, rfl⟩ := r
    exact .text x t
  | _, _, _, _, .lst _ _, e, _ => by simp [nk] at e
  | _, _, _, _, .tup (a := a) ea dv, e, r => by
    obtain rfl : _ = Value.ref a := r
    simp only [nk, Option.map_eq_some_iff] at e
    obtain ⟨ks, e1, rfl⟩ := e
    obtain ⟨_, its, vs, o, ho, hc, n, hd⟩ := ok _ _ ea
    exact .tup ho hc hd (nk_all ok dv e1 vs)
  | _, _, _, _, .dK _ _, e, _ => by simp [nk] at e
  | _, _, _, _, .ins _ _, e, _ => by simp [nk] at e
  | _, _, _, _, .dit _ _ _ _, e, _ => by simp [nk] at e
theorem nk_all (ok : HOk P Wd.w H h) : ∀ {vs : List V} {ds : List D} {ks : List NestedKey} {us : List Value}, DvAll H vs ds → nkAll ds = some ks → Vals vs us → NestedAll h ks us
  | _, _, _, _, .nil, e, .nil => by
    simp only [nkAll, Option.some.injEq] at e
    subst e
    exact .nil
  | _, _, _, _, .cons d t, e, .cons r rs => by
    simp only [nkAll] at e
    split at e
    · rename_i k ks e1 e2
      cases e
      exact .cons (nk_is ok d e1 r) (nk_all ok t e2 rs)
    · cases e
end
/-! ### entries as the two kinds of the kit tell them -/
abbrev ZA := NestedKey × Addr × Value
abbrev PA (p : DX) (q : ZA) : Prop := p.1 = q.1 ∧ p.2.1 = V.ref q.2.1 ∧ RelV p.2.2 q.2.2
theorem pa_keys : ∀ {xs : List DX} {zs : List ZA}, Paired PA xs zs → zs.map (·.1) = xs.map (·.1)
  | _, _, .nil => rfl
  | _, _, .cons r t => by rw [List.map_cons, List.map_cons, pa_keys t, r.1]
theorem to_A : ∀ {xs : List DX} {ys : List DZ}, Paired PX xs ys → (∀ x ∈ xs, KSh true x.1 x.2.1) → ∃ zs : List ZA, Paired PA xs zs ∧ ys.map entX = zs.map (entryOfKey (nestedKind P Wd.w))
  | _, _, .nil, _ => ⟨[], .nil, rfl⟩
  | x :: xs, y :: ys, .cons r t, k => by
    obtain ⟨zs, e1, e2⟩ := to_A t fun x hx => k x (List.mem_cons_of_mem _ hx)
    obtain ⟨_, _, b, eb⟩ := k x List.mem_cons_self
    obtain ⟨r1, r2, r3⟩ := r
    rw [eb] at r2
    have r2 : y.2.1 = Value.ref b := r2
    refine ⟨(x.1, b, y.2.2) :: zs, .cons ⟨rfl, eb, r3⟩ e1, ?_⟩
    rw [List.map_cons, List.map_cons, e2]
    refine congrArg (· :: _) ?_
    show (⟨_, _, _⟩ : DictEntry) = ⟨_, _, _⟩
    rw [r2, ← r1]; rfl
theorem of_A : ∀ {xs : List DX} {zs : List ZA}, Paired PA xs zs → ∃ ys : List DZ, Paired PX xs ys ∧ zs.map (entryOfKey (nestedKind P Wd.w)) = ys.map entX
  | _, _, .nil => ⟨[], .nil, rfl⟩
  | x :: xs, z :: zs, .cons r t => by
    obtain ⟨ys, e1, e2⟩ := of_A t
    obtain ⟨r1, r2, r3⟩ := r
    refine ⟨(x.1, .ref z.2.1, z.2.2) :: ys, .cons ⟨rfl, by rw [r2]; rfl, r3⟩ e1, ?_⟩
    rw [List.map_cons, List.map_cons, e2]
    refine congrArg (· :: _) ?_
    show (⟨_, _, _⟩ : DictEntry) = ⟨_, _, _⟩
    rw [r1]; rfl
def kN : Key → NestedKey
  | .inl i => .num i
  | .inr x => .text x
theorem kN_inj {a b : Key} (h : kN a = kN b) : a = b := by
  cases a <;> cases b <;> first | (injection h with h; rw [h]) | cases h
abbrev PK (p : DX) (q : Key × Value) : Prop := p.1 = kN q.1 ∧ p.2.1 = kV q.1 ∧ RelV p.2.2 q.2
theorem nodup_of_map {α β : Type} {f : α → β} : ∀ {l : List α}, (l.map f).Nodup → l.Nodup
  | [], _ => List.nodup_nil
  | a :: l, h => by
    rw [List.map_cons, List.nodup_cons] at h
    exact List.nodup_cons.mpr ⟨fun m => h.1 (List.mem_map.mpr ⟨a, m, rfl⟩), nodup_of_map h.2⟩
theorem kSh_key {k : NestedKey} {v : V} (h : KSh false k v) : ∃ q : Key, k = kN q ∧ v = kV q := by
  rcases h with ⟨i, rfl, rfl⟩ | ⟨x, rfl, rfl⟩
  · exact ⟨.inl i, rfl, rfl⟩
  · exact ⟨.inr x, rfl, rfl⟩
theorem kN_sh (q : Key) : KSh false (kN q) (kV q) := by
  cases q with
  | inl i => exact .inl ⟨i, rfl, rfl⟩
  | inr x => exact .inr ⟨x, rfl, rfl⟩
theorem kN_hash (q : Key) : (kN q).hash Wd.w = (mixKind P Wd.w).hash q := by cases q <;> rfl
theorem to_K : ∀ {xs : List DX} {ys : List DZ}, Paired PX xs ys → (∀ x ∈ xs, KSh false x.1 x.2.1) → ∃ vs : List (Key × Value), Paired PK xs vs ∧ Pairs (mixKind P Wd.w) (ys.map entX) vs ∧ ∀ e ∈ ys.map entX, ∃ k, (mixKind P Wd.w).is k e.key = true ∧ e.hash = (mixKind P Wd.w).hash k
  | _, _, .nil, _ => ⟨[], .nil, .nil, fun e he => nomatch he⟩
  | x :: xs, y :: ys, .cons r t, k => by
    obtain ⟨vs, e1, e2, e3⟩ := to_K t fun x hx => k x (List.mem_cons_of_mem _ hx)
    obtain ⟨q, k1, k2⟩ := kSh_key (k x List.mem_cons_self)
    obtain ⟨r1, r2, r3⟩ := r
    rw [k2] at r2
    have is : (mixKind P Wd.w).is q y.2.1 = true := kV_is r2
    refine ⟨(q, y.2.2) :: vs, .cons ⟨k1, k2, r3⟩ e1, .cons is rfl e2, fun e he => ?_⟩
    rw [List.map_cons] at he
    rcases List.mem_cons.mp he with rfl | he
    · refine ⟨q, is, ?_⟩
      show y.1.hash Wd.w = _
      rw [← r1, k1]; exact kN_hash q
    · exact e3 e he
theorem of_K : ∀ {xs : List DX} {vs : List (Key × Value)} {es : List DictEntry}, Paired PK xs vs → Pairs (mixKind P Wd.w) es vs → (∀ e ∈ es, ∃ k, (mixKind P Wd.w).is k e.key = true ∧ e.hash = (mixKind P Wd.w).hash k) → ∃ ys : List DZ, Paired PX xs ys ∧ es = ys.map entX
  | _, _, _, .nil, .nil, _ => ⟨[], .nil, rfl⟩
  | x :: xs, v :: vs, e :: es, .cons r t, .cons p1 p2 ps, k => by
    obtain ⟨ys, e1, e2⟩ := of_K t ps fun e he => k e (List.mem_cons_of_mem _ he)
    obtain ⟨r1, r2, r3⟩ := r
    obtain ⟨q, q1, q2⟩ := k e List.mem_cons_self
    have : q = v.1 := (mixKind P Wd.w).inj _ _ _ q1 p1
    refine ⟨(x.1, e.key, e.val) :: ys, .cons ⟨rfl, by rw [r2]; exact relV_key p1, by rw [p2]; exact r3⟩ e1, ?_⟩
    rw [List.map_cons, ← e2]
    refine congrArg (· :: _) ?_
    show e = ⟨_, _, _⟩
    rw [r1, kN_hash (P := P), ← this, ← q2]
/-! ### lookups -/
def valX (xs : List DX) (k : NestedKey) : Option V := (xs.find? fun x => decide (x.1 = k)).map (·.2.2)
def putX (xs : List DX) (k : NestedKey) (y v : V) : List DX :=
  if (xs.any fun x => decide (x.1 = k)) = true then xs.map (fun x => if x.1 = k then (x.1, x.2.1, v) else x) else xs ++ [(k, y, v)]
theorem valX_pos {x : DX} {r : List DX} {k : NestedKey} (e : x.1 = k) : valX (x :: r) k = some x.2.2 := by simp [valX, List.find?_cons, e]
theorem valX_neg {x : DX} {r : List DX} {k : NestedKey} (e : ¬ x.1 = k) : valX (x :: r) k = valX r k := by simp [valX, List.find?_cons, e]
theorem valX_any (k : NestedKey) : ∀ xs : List DX, (xs.any fun x => decide (x.1 = k)) = (valX xs k).isSome
  | [] => rfl
  | x :: r => by
    rw [List.any_cons]
    by_cases e : x.1 = k
    · rw [valX_pos e, decide_eq_true e]; rfl
    · rw [valX_neg e, decide_eq_false e, Bool.false_or, valX_any k r]
theorem putX_len (xs : List DX) (k : NestedKey) (y v : V) : (putX xs k y v).length ≤ xs.length + 1 := by
  unfold putX
  split
  · rw [List.length_map]; omega
  · rw [List.length_append, List.length_singleton]; omega
theorem putX_sh {t : Bool} {xs : List DX} {k : NestedKey} {y v : V} (h : ∀ x ∈ xs, KSh t x.1 x.2.1) (hk : KSh t k y) : ∀ x ∈ putX xs k y v, KSh t x.1 x.2.1 := by
  intro x hx
  unfold putX at hx
  split at hx
  · obtain ⟨z, hz, rfl⟩ := List.mem_map.mp hx
    split
    · exact h z hz
    · exact h z hz
  · rcases List.mem_append.mp hx with hx | hx
    · exact h x hx
    · rw [List.mem_singleton.mp hx]; exact hk
theorem putX_keys (xs : List DX) (k : NestedKey) (y v : V) : (putX xs k y v).map (·.1) = if (xs.any fun x => decide (x.1 = k)) = true then xs.map (·.1) else xs.map (·.1) ++ [k] := by
  unfold putX
  split
  · rw [List.map_map]
    refine List.map_congr_left fun x _ => ?_
    show (if x.1 = k then (x.1, x.2.1, v) else x).1 = x.1
    split <;> rfl
  · rw [List.map_append]; rfl
theorem putX_nodup {xs : List DX} {k : NestedKey} {y v : V} (h : (xs.map (·.1)).Nodup) : ((putX xs k y v).map (·.1)).Nodup := by
  rw [putX_keys]
  split
  · exact h
  · rename_i n
    refine List.nodup_append.mpr ⟨h, by simp, fun a ha b hb e => ?_⟩
    rw [List.mem_singleton] at hb
    subst hb e
    obtain ⟨x, hx, e⟩ := List.mem_map.mp ha
    exact n (List.any_eq_true.mpr ⟨x, hx, decide_eq_true e⟩)
theorem pa_val {xs : List DX} {zs : List ZA} (r : Paired PA xs zs) (k : NestedKey) : RelO (valX xs k) ((atKey zs k).map (·.2)) := by
  induction r with
  | nil => exact True.intro
  | @cons p q ps qs h t ih =>
    obtain ⟨h1, _, h2⟩ := h
    by_cases e : p.1 = k
    · have e' : q.1 = k := h1.symm.trans e
      have b : atKey (q :: qs) k = some q.2 := by simp [atKey, List.find?_cons, e']
      rw [valX_pos e, b]; exact h2
    · have e' : ¬ q.1 = k := fun z => e (h1.trans z)
      have b : atKey (q :: qs) k = atKey qs k := by simp [atKey, List.find?_cons, e']
      rw [valX_neg e, b]; exact ih
theorem pa_put {xs : List DX} {zs : List ZA} (r : Paired PA xs zs) (k : NestedKey) (b : Addr) {v : V} {u : Value} (rv : RelV v u) : Paired PA (putX xs k (.ref b) v) (storedH zs k b u) := by
  have e : (xs.any fun x => decide (x.1 = k)) = (atKey zs k).isSome := by rw [valX_any, RelO.isSome_eq (pa_val r k), Option.isSome_map]
  unfold putX storedH
  rw [e]
  have mp : Paired PA (xs.map fun x => if x.1 = k then (x.1, x.2.1, v) else x) (zs.map (putAt k u)) := by
    clear e
    induction r with
    | nil => exact .nil
    | @cons p q ps qs h t ih =>
      refine .cons ?_ ih
      obtain ⟨h1, h2, h3⟩ := h
      unfold putAt
      dsimp only
      by_cases e : p.1 = k
      · rw [if_pos e, if_pos (h1.symm.trans e)]; exact ⟨h1, h2, rv⟩
      · rw [if_neg e, if_neg (fun z => e (h1.trans z))]; exact ⟨h1, h2, h3⟩
  by_cases q : (atKey zs k).isSome = true
  · rw [if_pos q, if_pos q]; exact mp
  · rw [if_neg q, if_neg q]; exact Paired.app r (.cons ⟨rfl, rfl, rv⟩ .nil)
theorem pk_val {xs : List DX} {vs : List (Key × Value)} (r : Paired PK xs vs) (q : Key) : RelO (valX xs (kN q)) (valueAt vs q) := by
  induction r with
  | nil => exact True.intro
  | @cons p v ps vs h t ih =>
    obtain ⟨h1, _, h2⟩ := h
    by_cases e : v.1 = q
    · have b : valueAt (v :: vs) q = some v.2 := by simp [valueAt, List.find?_cons, e]
      rw [valX_pos (by rw [h1, e]), b]; exact h2
    · have b : valueAt (v :: vs) q = valueAt vs q := by simp [valueAt, List.find?_cons, e]
      rw [valX_neg (fun z => e (kN_inj (h1.symm.trans z))), b]; exact ih
theorem pk_put {xs : List DX} {vs : List (Key × Value)} (r : Paired PK xs vs) (q : Key) {v : V} {u : Value} (rv : RelV v u) : Paired PK (putX xs (kN q) (kV q) v) (stored vs q u) := by
  have e : (xs.any fun x => decide (x.1 = kN q)) = vs.any fun kv => decide (kv.1 = q) := by
    clear rv
    induction r with
    | nil => rfl
    | @cons p w ps ws h t ih =>
      rw [List.any_cons, List.any_cons, ih]
      have : decide (p.1 = kN q) = decide (w.1 = q) := decide_eq_decide.mpr ⟨fun z => kN_inj (h.1.symm.trans z), fun z => by rw [h.1, z]⟩
      rw [this]
  unfold putX stored
  rw [e]
  have mp : Paired PK (xs.map fun x => if x.1 = kN q then (x.1, x.2.1, v) else x) (vs.map fun kv => if kv.1 = q then (kv.1, u) else kv) := by
    clear e
    induction r with
    | nil => exact .nil
    | @cons p w ps ws h t ih =>
      refine .cons ?_ ih
      obtain ⟨h1, h2, h3⟩ := h
      dsimp only
      by_cases e : w.1 = q
      · rw [if_pos e, if_pos (by rw [h1, e])]; exact ⟨h1, h2, rv⟩
      · rw [if_neg e, if_neg (fun z => e (kN_inj (h1.symm.trans z)))]; exact ⟨h1, h2, h3⟩
  by_cases a : (vs.any fun kv => decide (kv.1 = q)) = true
  · rw [if_pos a, if_pos a]; exact mp
  · rw [if_neg a, if_neg a]; exact Paired.app r (.cons ⟨rfl, rfl, rv⟩ .nil)
/-! ### the dict in the heap -/
/-- its keys stand in the heap -/
def KOk (t : Bool) (h : Heap) (xs : List DX) : Prop := t = true → ∀ x ∈ xs, ∀ b, x.2.1 = .ref b → NestedIs h x.1 (.ref b)
def KyOk (t : Bool) (h : Heap) (k : NestedKey) (y : V) (u : Value) : Prop := KSh t k y ∧ RelV y u ∧ (t = true → NestedIs h k u)
variable {t : Bool} {ep : Nat} {d : Addr} {xs : List DX} {k : NestedKey} {y v : V} {u r : Value} {A : Around} {E : Value → Shared → Prop} {s : Shared}
theorem raw_A (R : RawOf true ep d xs h) (K : KOk true h xs) : ∃ zs : List ZA, Paired PA xs zs ∧ h.DictOfH (nestedKind P Wd.w) d zs := by
  obtain ⟨z, sy, nd, sh, ys, o, es, pr, ho, hx, hd, he⟩ := R
  obtain ⟨zs, e1, e2⟩ := to_A (P := P) pr sh
  refine ⟨zs, e1, o, es, ep, ho, hx, hd, by rw [he, e2], ?_, by rw [pa_keys e1]; exact nd⟩
  have K := K rfl
  have go : ∀ {xs : List DX} {zs : List ZA}, Paired PA xs zs → (∀ x ∈ xs, KSh true x.1 x.2.1) → (∀ x ∈ xs, ∀ b, x.2.1 = .ref b → NestedIs h x.1 (.ref b)) → ∀ x ∈ zs, (nestedKind P Wd.w).is h x.1 x.2.1 := by
    intro xs zs e1
    induction e1 with
    | nil => intro _ _ x hx; cases hx
    | @cons p q ps qs h1 t1 ih =>
      intro sh K x hx
      rcases List.mem_cons.mp hx with rfl | hx
      · obtain ⟨_, dp, _⟩ := sh p List.mem_cons_self
        refine ⟨?_, by rw [← h1.1]; exact dp⟩
        rw [← h1.1]
        exact K p List.mem_cons_self _ h1.2.1
      · exact ih (fun x hx => sh x (List.mem_cons_of_mem _ hx)) (fun x hx => K x (List.mem_cons_of_mem _ hx)) x hx
  exact go e1 sh K
theorem A_raw {zs : List ZA} (z : xs.length ≤ sizeLine) (sy : (d == sysModules) = false) (sh : ∀ x ∈ xs, KSh true x.1 x.2.1) (pr : Paired PA xs zs) (dd : h.DictOfH (nestedKind P Wd.w) d zs) : ∃ ep, RawOf true ep d xs h := by
  obtain ⟨o, es, ep, ho, hx, hd, he, _, nd⟩ := dd
  obtain ⟨ys, e1, e2⟩ := of_A (P := P) pr
  exact ⟨ep, z, sy, by rw [← pa_keys pr]; exact nd, sh, ys, o, es, e1, ho, hx, hd, by rw [he, e2]⟩
theorem raw_K (R : RawOf false ep d xs h) : ∃ vs : List (Key × Value), Paired PK xs vs ∧ h.DictOf (mixKind P Wd.w) d vs := by
  obtain ⟨z, sy, nd, sh, ys, o, es, pr, ho, hx, hd, he⟩ := R
  obtain ⟨vs, e1, e2, e3⟩ := to_K (P := P) pr sh
  refine ⟨vs, e1, o, es, ep, ho, hx, hd, fun e hm => e3 e (by rw [← he]; exact Array.mem_toList_iff.mpr hm), by rw [he]; exact e2, ?_⟩
  have : ∀ {xs : List DX} {vs : List (Key × Value)}, Paired PK xs vs → xs.map (·.1) = (vs.map (·.1)).map kN := by
    intro xs vs pr
    induction pr with
    | nil => rfl
    | cons h t ih => rw [List.map_cons, List.map_cons, List.map_cons, ih, h.1]
  rw [this e1] at nd
  exact nodup_of_map nd
theorem K_raw {vs : List (Key × Value)} (z : xs.length ≤ sizeLine) (sy : (d == sysModules) = false) (nd : (xs.map (·.1)).Nodup) (sh : ∀ x ∈ xs, KSh false x.1 x.2.1) (pr : Paired PK xs vs) (dd : h.DictOf (mixKind P Wd.w) d vs) : ∃ ep, RawOf false ep d xs h := by
  obtain ⟨o, es, ep, ho, hx, hd, hk, hp, _⟩ := dd
  obtain ⟨ys, e1, e2⟩ := of_K (P := P) pr hp fun e he => hk e (Array.mem_toList_iff.mp he)
  exact ⟨ep, z, sy, nd, sh, ys, o, es, e1, ho, hx, hd, e2⟩
theorem raw_at (R : RawOf t ep d xs h) (k : ∀ o, h.get? d = some o → h'.get? d = some o) : RawOf t ep d xs h' := by
  obtain ⟨z, sy, nd, sh, ys, o, es, pr, ho, r⟩ := R
  exact ⟨z, sy, nd, sh, ys, o, es, pr, k o ho, r⟩
theorem raw_type (R : RawOf t ep d xs s.heap) : s.TypeIs (.ref d) "dict" := by
  obtain ⟨z, sy, nd, sh, ys, o, es, pr, ho, hx, _⟩ := R
  exact ⟨o, ho, hx.1⟩
theorem raw_noDict (R : RawOf t ep d xs s.heap) : ∀ b, Value.ref d = .ref b → ∃ ob, s.heap.get? b = some ob ∧ ob.dict = none := fun b q => by
  cases q
  obtain ⟨z, sy, nd, sh, ys, o, es, pr, ho, hx, _⟩ := R
  exact ⟨o, ho, hx.2.1⟩
theorem raw_there (R : RawOf t ep d xs h) : ∃ o, h.get? d = some o := by
  obtain ⟨z, sy, nd, sh, ys, o, es, pr, ho, _⟩ := R
  exact ⟨o, ho⟩
/-- d[k] -/
theorem raw_get {Q : Value → Shared → Prop} (hu : A.units + 10 < cLine) (R : RawOf t ep d xs s.heap) (K : KOk t s.heap xs) (ky : KyOk t s.heap k y u) (e : valX xs k = some v)
    (h : ∀ w tk, RelV v w → Q w { s with toks := tk }) : wpAny (model P Wd.w) A (getItem (.ref d) u) Q E s := by
  obtain ⟨sh, ry, ks⟩ := ky
  cases t with
  | true =>
    obtain ⟨zs, pr, dd⟩ := raw_A (P := P) R K
    obtain ⟨_, dp, b, rfl⟩ := sh
    cases (show u = Value.ref b from ry)
    have rv := pa_val pr k
    rw [e] at rv
    cases q : atKey zs k with
    | none => rw [q] at rv; exact (show False from rv).elim
    | some p =>
      rw [q] at rv
      refine wpAny_getItem_heap (knd := nestedKind P Wd.w) (show A.in1.units + 8 < cLine from ?_) ⟨ks rfl, dp⟩ dd q (h _ _ rv)
      have : A.in1.units = A.units + 1 := rfl
      omega
  | false =>
    obtain ⟨vs, pr, dd⟩ := raw_K (P := P) R
    obtain ⟨q, rfl, rfl⟩ := kSh_key sh
    have rv := pk_val pr q
    rw [e] at rv
    cases z : valueAt vs q with
    | none => rw [z] at rv; exact (show False from rv).elim
    | some p =>
      rw [z] at rv
      exact wpAny_getItem_of (kV_is ry) dd.mapOf z (h _ _ rv)
theorem raw_in {Q : Value → Shared → Prop} (hu : A.units + 10 < cLine) (R : RawOf t ep d xs s.heap) (K : KOk t s.heap xs) (ky : KyOk t s.heap k y u)
    (h : ∀ tk, Q (.bool (valX xs k).isSome) { s with toks := tk }) : wpAny (model P Wd.w) A (compareOp .In u (.ref d)) Q E s := by
  obtain ⟨sh, ry, ks⟩ := ky
  have sy := R.2.1
  cases t with
  | true =>
    obtain ⟨zs, pr, dd⟩ := raw_A (P := P) R K
    obtain ⟨_, dp, b, rfl⟩ := sh
    cases (show u = Value.ref b from ry)
    refine wpAny_in_heap (knd := nestedKind P Wd.w) (show A.in1.units + 8 < cLine from ?_) ⟨ks rfl, dp⟩ sy dd ?_
    · have : A.in1.units = A.units + 1 := rfl
      omega
    · have := RelO.isSome_eq (pa_val pr k)
      rw [Option.isSome_map] at this
      rw [← this]; exact h _
  | false =>
    obtain ⟨vs, pr, dd⟩ := raw_K (P := P) R
    obtain ⟨q, rfl, rfl⟩ := kSh_key sh
    refine wpAny_in_of (kV_is ry) sy dd.mapOf ?_
    rw [← RelO.isSome_eq (pk_val pr q)]
    exact h _
theorem raw_notIn {Q : Value → Shared → Prop} (hu : A.units + 10 < cLine) (R : RawOf t ep d xs s.heap) (K : KOk t s.heap xs) (ky : KyOk t s.heap k y u)
    (h : ∀ tk, Q (.bool (!(valX xs k).isSome)) { s with toks := tk }) : wpAny (model P Wd.w) A (compareOp .NotIn u (.ref d)) Q E s := by
  obtain ⟨sh, ry, ks⟩ := ky
  have sy := R.2.1
  cases t with
  | true =>
    obtain ⟨zs, pr, dd⟩ := raw_A (P := P) R K
    obtain ⟨_, dp, b, rfl⟩ := sh
    cases (show u = Value.ref b from ry)
    refine wpAny_notIn_heap (knd := nestedKind P Wd.w) (show A.in1.units + 8 < cLine from ?_) ⟨ks rfl, dp⟩ sy dd ?_
    · have : A.in1.units = A.units + 1 := rfl
      omega
    · have := RelO.isSome_eq (pa_val pr k)
      rw [Option.isSome_map] at this
      rw [← this]; exact h _
  | false =>
    obtain ⟨vs, pr, dd⟩ := raw_K (P := P) R
    obtain ⟨q, rfl, rfl⟩ := kSh_key sh
    refine wpAny_notIn_of (kV_is ry) sy dd.mapOf ?_
    rw [← RelO.isSome_eq (pk_val pr q)]
    exact h _
theorem put_raw (R : RawOf t ep d xs h) (ky : KyOk t h k y u) (hl : xs.length < sizeLine) (v : V) : (putX xs k y v).length ≤ sizeLine ∧ (d == sysModules) = false ∧ ((putX xs k y v).map (·.1)).Nodup ∧ ∀ x ∈ putX xs k y v, KSh t x.1 x.2.1 := by
  have := putX_len xs k y v
  exact ⟨by omega, R.2.1, putX_nodup R.2.2.1, putX_sh R.2.2.2.1 ky.1⟩
/-- d[k] = v -/
theorem raw_set {Q : Unit → Shared → Prop} (hu : A.units + 10 < cLine) (R : RawOf t ep d xs s.heap) (K : KOk t s.heap xs) (ky : KyOk t s.heap k y u) (hl : xs.length < sizeLine) (rv : RelV v r)
    (h : ∀ h' ep' tk, RawOf t ep' d (putX xs k y v) h' → Heap.SameBut d s.heap h' → Q () { s with heap := h', toks := tk }) : wpAny (model P Wd.w) A (setItem (.ref d) u r) Q E s := by
  obtain ⟨pl, sy, nd, shp⟩ := put_raw R ky hl v
  obtain ⟨sh, ry, ks⟩ := ky
  have hz := R.1
  cases t with
  | true =>
    obtain ⟨zs, pr, dd⟩ := raw_A (P := P) R K
    obtain ⟨_, dp, b, rfl⟩ := sh
    cases (show u = Value.ref b from ry)
    refine wpAny_setItem_heap (knd := nestedKind P Wd.w) (hsz := by rw [← Paired.len pr]; exact hz) (show A.in1.units + 8 < cLine from ?_) ⟨ks rfl, dp⟩ dd fun h' dd' sb => ?_
    · have : A.in1.units = A.units + 1 := rfl
      omega
    · obtain ⟨ep', R'⟩ := A_raw (P := P) pl sy shp (pa_put pr k b rv) dd'
      exact h h' ep' _ R' sb
  | false =>
    obtain ⟨vs, pr, dd⟩ := raw_K (P := P) R
    obtain ⟨q, rfl, rfl⟩ := kSh_key sh
    refine wpAny_setItem_pairs (hsz := by rw [← Paired.len pr]; exact hz) (kV_is ry) dd fun h' dd' sb => ?_
    obtain ⟨ep', R'⟩ := K_raw (P := P) pl sy nd shp (pk_put pr q rv) dd'
    exact h h' ep' _ R' sb
theorem raw_dset {Q : Unit → Shared → Prop} (hu : A.units + 10 < cLine) (R : RawOf t ep d xs s.heap) (K : KOk t s.heap xs) (ky : KyOk t s.heap k y u) (hl : xs.length < sizeLine) (rv : RelV v r)
    (h : ∀ h' ep' tk, RawOf t ep' d (putX xs k y v) h' → Heap.SameBut d s.heap h' → Q () { s with heap := h', toks := tk }) : wpAny (model P Wd.w) A (dictSet d u r) Q E s := by
  obtain ⟨pl, sy, nd, shp⟩ := put_raw R ky hl v
  obtain ⟨sh, ry, ks⟩ := ky
  have hz := R.1
  cases t with
  | true =>
    obtain ⟨zs, pr, dd⟩ := raw_A (P := P) R K
    obtain ⟨_, dp, b, rfl⟩ := sh
    cases (show u = Value.ref b from ry)
    refine wpAny_dictSet_heap (knd := nestedKind P Wd.w) (hsz := by rw [← Paired.len pr]; exact hz) (show A.units + 8 < cLine by omega) ⟨ks rfl, dp⟩ dd fun h' dd' sb => ?_
    obtain ⟨ep', R'⟩ := A_raw (P := P) pl sy shp (pa_put pr k b rv) dd'
    exact h h' ep' _ R' sb
  | false =>
    obtain ⟨vs, pr, dd⟩ := raw_K (P := P) R
    obtain ⟨q, rfl, rfl⟩ := kSh_key sh
    refine wpAny_dictSet_pairs (hsz := by rw [← Paired.len pr]; exact hz) (kV_is ry) dd fun h' dd' sb => ?_
    obtain ⟨ep', R'⟩ := K_raw (P := P) pl sy nd shp (pk_put pr q rv) dd'
    exact h h' ep' _ R' sb
/-- d.setdefault(k, v) -/
theorem raw_setd {Q : Value → Shared → Prop} (hu : A.units + 10 < cLine) (R : RawOf t ep d xs s.heap) (K : KOk t s.heap xs) (ky : KyOk t s.heap k y u) (hl : xs.length < sizeLine) (rv : RelV v r)
    (h1 : ∀ z, valX xs k = some z → ∀ w tk, RelV z w → Q w { s with toks := tk })
    (h2 : valX xs k = none → ∀ h' ep' tk, RawOf t ep' d (putX xs k y v) h' → Heap.SameBut d s.heap h' → Q r { s with heap := h', toks := tk }) : wpAny (model P Wd.w) A (call (.builtin "dict.setdefault") [.ref d, u, r]) Q E s := by
  obtain ⟨pl, sy, nd, shp⟩ := put_raw R ky hl v
  obtain ⟨sh, ry, ks⟩ := ky
  have hz := R.1
  cases t with
  | true =>
    obtain ⟨zs, pr, dd⟩ := raw_A (P := P) R K
    obtain ⟨_, dp, b, rfl⟩ := sh
    cases (show u = Value.ref b from ry)
    have rel := pa_val pr k
    refine call_setdefault_heap (knd := nestedKind P Wd.w) (hsz := by rw [← Paired.len pr]; exact hz) (show A.in1.units + 8 < cLine from ?_) ⟨ks rfl, dp⟩ sy dd (fun p hp => ?_) fun hn h' dd' sb => ?_
    · have : A.in1.units = A.units + 1 := rfl
      omega
    · rw [hp] at rel
      cases q : valX xs k with
      | none => rw [q] at rel; exact (show False from rel).elim
      | some z => rw [q] at rel; exact h1 z q _ _ rel
    · rw [hn] at rel
      cases q : valX xs k with
      | some z => rw [q] at rel; exact (show False from rel).elim
      | none =>
        obtain ⟨ep', R'⟩ := A_raw (P := P) pl sy shp (pa_put pr k b rv) dd'
        exact h2 q h' ep' _ R' sb
  | false =>
    obtain ⟨vs, pr, dd⟩ := raw_K (P := P) R
    obtain ⟨q, rfl, rfl⟩ := kSh_key sh
    have rel := pk_val pr q
    refine call_meetsIn PySem.F.slot_dict_setdefault dd.typeIs PySem.F.entry_dict_setdefault (PySem.F.args_dict_setdefault_3 _ _ _) (kt_meets_setdefault (mixKind P Wd.w) d (kV_is ry) sy r) ⟨vs, dd, by rw [← Paired.len pr]; exact hz, fun p hp => ?_, fun hn h' dd' sb => ?_⟩
    · rw [hp] at rel
      cases z : valX xs (kN q) with
      | none => rw [z] at rel; exact (show False from rel).elim
      | some z' => rw [z] at rel; exact h1 z' z _ _ rel
    · rw [hn] at rel
      cases z : valX xs (kN q) with
      | some z' => rw [z] at rel; exact (show False from rel).elim
      | none =>
        obtain ⟨ep', R'⟩ := K_raw (P := P) pl sy nd shp (pk_put pr q rv) dd'
        exact h2 z h' ep' _ R' sb
/-- d.get(k) -/
theorem raw_get1 {Q : Value → Shared → Prop} (hu : A.units + 10 < cLine) (R : RawOf t ep d xs s.heap) (K : KOk t s.heap xs) (ky : KyOk t s.heap k y u)
    (h : ∀ w tk, RelV ((valX xs k).getD .non) w → Q w { s with toks := tk }) : wpAny (model P Wd.w) A (call (.builtin "dict.get") [.ref d, u]) Q E s := by
  obtain ⟨sh, ry, ks⟩ := ky
  have sy := R.2.1
  cases t with
  | true =>
    obtain ⟨zs, pr, dd⟩ := raw_A (P := P) R K
    obtain ⟨_, dp, b, rfl⟩ := sh
    cases (show u = Value.ref b from ry)
    refine call_meetsIn PySem.F.slot_dict_get dd.typeIs PySem.F.entry_dict_get (PySem.F.args_dict_get_2 _ _) (meetsH_dict_get (nestedKind P Wd.w) d b sy) ⟨show A.in1.units + 8 < cLine from ?_, k, zs, ⟨ks rfl, dp⟩, dd, h _ _ ?_⟩
    · have : A.in1.units = A.units + 1 := rfl
      omega
    · exact RelO.getD (pa_val pr k) rfl
  | false =>
    obtain ⟨vs, pr, dd⟩ := raw_K (P := P) R
    obtain ⟨q, rfl, rfl⟩ := kSh_key sh
    refine call_meetsIn PySem.F.slot_dict_get dd.typeIs PySem.F.entry_dict_get (PySem.F.args_dict_get_2 _ _) (meets_dict_get (mixKind P Wd.w) d (kV_is ry) sy) ⟨_, dd.mapOf, h _ _ ?_⟩
    exact RelO.getD (pk_val pr q) rfl
/-- the empty dict -/
theorem raw_new (h : Heap) (hb : sysModules < h.objs.size) : RawOf t 0 h.objs.size [] (h.push { cls := .type "dict", data := .dict #[] }) :=
  ⟨Nat.zero_le _, beq_eq_false_iff_ne.mpr (Ne.symm (Nat.ne_of_lt hb)), List.nodup_nil, (by intro x hx; cases hx), [], _, #[], Paired.nil, Heap.get?_push_size _ rfl, ⟨rfl, rfl, rfl⟩, rfl, rfl⟩
theorem dit_ok {P : Program} {w : World} {H : Hp} (R : RawOf t ep d xs h) : ObjOk P w H h d (ditO t ep d xs) := ⟨R, raw_there R, fun h1 h2 p k => raw_at p k⟩
end
end Zi

set_option Elab.async false
set_option linter.all false
set_option maxRecDepth 100000
set_option maxHeartbeats 1000000
/-! Ze: dicts by their entries: rules over the hand layer. -/
namespace Zi
open PySem PySem.Spec PyProof.Rows L2 Ly
variable [Zi.Wd]
/-- the keys of the entries, as data -/
def KH (H : Hp) (xs : List DX) : Prop := ∃ ks, DvAll H (xs.map (·.2.1)) ks ∧ nkAll ks = some (xs.map (·.1))
def YH (H : Hp) (t : Bool) (k : NestedKey) (y : V) : Prop := KSh t k y ∧ ∃ d, Dv H y d ∧ nk d = some k
section
variable {P : Program} {H : Hp} {h : Heap} {t : Bool} {ep : Nat} {xs : List DX} {k : NestedKey} {y : V} {u : Value} {a : Addr}
theorem KH.ok (ok : HOk P Wd.w H h) (K : KH H xs) : KOk t h xs := fun _ => by
  obtain ⟨ks, d, n⟩ := K
  have go : ∀ {xs : List DX} {ks : List D}, DvAll H (xs.map (·.2.1)) ks → nkAll ks = some (xs.map (·.1)) → ∀ x ∈ xs, ∀ b, x.2.1 = .ref b → NestedIs h x.1 (.ref b) := by
    intro xs
    induction xs with
    | nil => intro _ _ _ x hx; cases hx
    | cons x xs ih =>
      intro ks d n z hz b e
      rw [List.map_cons] at d
      cases d with | cons d1 d2 => ?_
      simp only [nkAll, List.map_cons] at n
      split at n
      · rename_i k' ks' e1 e2
        injection n with n
        injection n with n1 n2
        rcases List.mem_cons.mp hz with rfl | hz
        · rw [← n1]
          exact nk_is ok d1 e1 (by rw [e]; rfl)
        · exact ih d2 (by rw [e2, n2]) z hz b e
      · cases n
  exact go d n
theorem YH.ok (ok : HOk P Wd.w H h) (Y : YH H t k y) (r : RelV y u) : KyOk t h k y u := by
  obtain ⟨sh, d, dv, n⟩ := Y
  exact ⟨sh, r, fun _ => nk_is ok dv n r⟩
end
/-! ### readings -/
def AtX (H : Hp) (x : V) (t : Bool) (ep : Nat) (a : Addr) (xs : List DX) : Prop := x = .ref a ∧ H a = some (ditO t ep a xs) ∧ KH H xs
def tXGet (td ty : TE) : TE := fun σ H Q => td σ H fun x H1 => ty σ H1 fun y H2 => ∃ t ep a xs k v, AtX H2 x t ep a xs ∧ YH H2 t k y ∧ valX xs k = some v ∧ Q v H2
def tXIn (neg : Bool) (ty td : TE) : TE := fun σ H Q => ty σ H fun y H1 => td σ H1 fun x H2 => ∃ t ep a xs k, AtX H2 x t ep a xs ∧ YH H2 t k y ∧ Q (.bl (if neg then !(valX xs k).isSome else (valX xs k).isSome)) H2
def sXPut (td ty tv : TE) : TS := fun D σ H => tv σ H fun v H1 => td σ H1 fun x H2 => ty σ H2 fun y H3 => ∃ t ep a xs k, AtX H3 x t ep a xs ∧ YH H3 t k y ∧ xs.length < sizeLine ∧ ∀ ep', D.nx σ (upd H3 a (ditO t ep' a (putX xs k y v)))
def tXNew (t : Bool) : TE := fun _ H Q => ∀ p ep, H p = none → Q (.ref p) (upd H p (ditO t ep p []))
def tXSetd (td ty tx : TE) : TE := fun σ H Q => td σ H fun x H1 => (∃ t ep a xs, x = .ref a ∧ H1 a = some (ditO t ep a xs)) ∧ ty σ H1 fun y H2 => tx σ H2 fun z H3 => ∃ t ep a xs k, AtX H3 x t ep a xs ∧ YH H3 t k y ∧ xs.length < sizeLine ∧
  (∀ v, valX xs k = some v → Q v H3) ∧ (valX xs k = none → ∀ ep', Q z (upd H3 a (ditO t ep' a (putX xs k y z))))
def tXGet1 (td ty : TE) : TE := fun σ H Q => td σ H fun x H1 => (∃ t ep a xs, x = .ref a ∧ H1 a = some (ditO t ep a xs)) ∧ ty σ H1 fun y H2 => ∃ t ep a xs k, AtX H2 x t ep a xs ∧ YH H2 t k y ∧ Q ((valX xs k).getD .non) H2
def rXLen : List V → Hp → VK → Prop := fun vs H Q => ∃ x t ep a xs, vs = [x] ∧ AtX H x t ep a xs ∧ Q (.int ((xs.length : Nat) : Int)) H
section
variable {X : Cx} {pins : List (Addr × Obj)} {σ : L2.St} {H : Hp} {s : Shared} {t : Bool} {ep : Nat} {a : Addr} {xs : List DX} {k : NestedKey} {y v : V} {u r : Value}
theorem Inv.ditR (I : Inv X pins σ H s) (e : H a = some (ditO t ep a xs)) : RawOf t ep a xs s.heap := (I.hok a _ e).1
theorem Inv.okW (hw : X.w = Wd.w) (I : Inv X pins σ H s) : HOk X.prog Wd.w H s.heap := hw ▸ I.hok
theorem Inv.ditW {h' : Heap} {t' : Nat} {ep' : Nat} {ys : List DX} (I : Inv X pins σ H s) (e : H a = some (ditO t ep a xs)) (R : RawOf t ep' a ys h') (sb : Heap.SameBut a s.heap h') : Inv X pins σ (upd H a (ditO t ep' a ys)) { s with heap := h', toks := t' } :=
  d_write I (by rw [e]; exact True.intro) sb (raw_there R) (dit_ok R)
end
section
variable {X : Cx} {o i e f value : Expr} {pos pos' cpos apos : Pos} {td ty tv tx : TE}
theorem pe_xget (hw : X.w = Wd.w) (hu : X.A.units + 64 < cLine) (ho : PE X o td) (hi : PE X i ty) (hs : NoSl i) : PE X (.Subscript o i pos) (tXGet td ty) := by
  refine ⟨fun pins s σ H Q I h => ?_⟩
  refine subD_of PySem.F.slot_dict_getitem.lookup hs (thn (ho.run pins s σ H _ I h) fun u s1 ⟨x, H1, I1, rx, q1⟩ => thn (hi.run pins s1 σ H1 _ I1 q1) fun iv s2 ⟨y, H2, I2, ry, t, ep, a, xs, k, v, ⟨ex, e, K⟩, Y, l, q2⟩ => ?_)
  subst ex
  obtain rfl : u = Value.ref a := rx
  have R := Inv.ditR I2 e
  have ok := Inv.okW hw I2
  refine ⟨raw_type R, ?_⟩
  rw [hw]
  exact raw_get (by omega) R (K.ok ok) (Y.ok ok ry) l fun w' tk rw' => ⟨v, H2, I2.tok _, rw', q2⟩
theorem pc_xin (hw : X.w = Wd.w) (hu : X.A.units + 64 < cLine) (hi : PE X i ty) (ho : PE X o td) : PC X .In i o (tXIn false ty td) := by
  refine ⟨fun pins s σ H Q I h => ?_⟩
  refine thn (hi.run pins s σ H _ I h) fun iv s1 ⟨y, H1, I1, ry, q1⟩ => thn (ho.run pins s1 σ H1 _ I1 q1) fun u s2 ⟨x, H2, I2, rx, t, ep, a, xs, k, ⟨ex, e, K⟩, Y, q2⟩ => ?_
  subst ex
  obtain rfl : u = Value.ref a := rx
  have ok := Inv.okW hw I2
  rw [hw]
  exact raw_in (by omega) (Inv.ditR I2 e) (K.ok ok) (Y.ok ok ry) fun tk => ⟨.bl (valX xs k).isSome, H2, I2.tok _, rfl, q2⟩
theorem pc_xnin (hw : X.w = Wd.w) (hu : X.A.units + 64 < cLine) (hi : PE X i ty) (ho : PE X o td) : PC X .NotIn i o (tXIn true ty td) := by
  refine ⟨fun pins s σ H Q I h => ?_⟩
  refine thn (hi.run pins s σ H _ I h) fun iv s1 ⟨y, H1, I1, ry, q1⟩ => thn (ho.run pins s1 σ H1 _ I1 q1) fun u s2 ⟨x, H2, I2, rx, t, ep, a, xs, k, ⟨ex, e, K⟩, Y, q2⟩ => ?_
  subst ex
  obtain rfl : u = Value.ref a := rx
  have ok := Inv.okW hw I2
  rw [hw]
  exact raw_notIn (by omega) (Inv.ditR I2 e) (K.ok ok) (Y.ok ok ry) fun tk => ⟨.bl (!(valX xs k).isSome), H2, I2.tok _, rfl, q2⟩
theorem ps_xput (hw : X.w = Wd.w) (hu : X.A.units + 64 < cLine) (ho : PE X o td) (hi : PE X i ty) (hv : PE X value tv) (hs : swapsWith value (some (.Subscript o i pos')) pos.line X.env = pure false) :
    PS X (.Assign [.Subscript o i pos'] value pos) (sXPut td ty tv) := by
  refine ⟨fun pins s σ H D I h => ?_⟩
  refine wpAny_Assign_Subscript (thn (hv.run pins s σ H _ I h) fun r s1 ⟨v, H1, I1, rv, q1⟩ => thn (ho.run pins s1 σ H1 _ I1 q1) fun u s2 ⟨x, H2, I2, rx, q2⟩ => thn (hi.run pins s2 σ H2 _ I2 q2) fun iv s3 ⟨y, H3, I3, ry, t, ep, a, xs, k, ⟨ex, e, K⟩, Y, hl, q3⟩ => ?_) hs
  subst ex
  obtain rfl : u = Value.ref a := rx
  have ok := Inv.okW hw I3
  rw [hw]
  exact raw_set (by omega) (Inv.ditR I3 e) (K.ok ok) (Y.ok ok ry) hl rv fun h' ep' tk R sb => ⟨σ, _, Inv.ditW I3 e R sb, q3 ep'⟩
theorem pe_xnew (t : Bool) : PE X (.Dict [] [] pos) (tXNew t) := ⟨fun pins s σ H Q I h =>
  wpAny_Dict_empty ⟨.ref s.heap.objs.size, _, I.laid (a := s.heap.objs.size) (o := ditO t 0 s.heap.objs.size []) (t' := s.toks) (fun _ _ q => Heap.get?_push_of_some _ q) (Nat.le_refl _) (dit_ok (raw_new s.heap I.big)), rfl, h _ 0 (I.hok.fresh (Nat.le_refl _))⟩⟩
theorem pe_xsetd (hw : X.w = Wd.w) (hu : X.A.units + 64 < cLine) (ho : PE X o td) (he : PE X e ty) (hf : PE X f tx) (m : M2 X o "setdefault" apos e f cpos) : PE X (.Call (.Attribute o "setdefault" apos) [e, f] [] cpos) (tXSetd td ty tx) := by
  refine ⟨fun pins s σ H Q I h => ?_⟩
  refine wpAny_Call_method m.base m.few m.line PySem.F.plainAttrs_dict PySem.F.slot_dict_setdefault PySem.F.type_dict_setdefault (thn (ho.run pins s σ H _ I h) fun u s1 ⟨x, H1, I1, rx, ⟨t0, ep0, a0, xs0, ex0, e0⟩, q1⟩ => ?_)
  subst ex0
  obtain rfl : u = Value.ref a0 := rx
  have R0 := Inv.ditR I1 e0
  refine ⟨raw_type R0, raw_noDict R0, ?_⟩
  rw [m.trees]
  refine Calls.callWith_builtin rfl (Calls.evalArgs_plain (Calls.spliced_cons (thn (he.run pins s1 σ H1 _ I1 q1) fun iv s2 ⟨y, H2, I2, ry, q2⟩ =>
    Calls.spliced_cons (thn (hf.run pins s2 σ H2 _ I2 q2) fun fv s3 ⟨z, H3, I3, rz, t, ep, a, xs, k, ⟨ex, e, K⟩, Y, hl, q3, q4⟩ => Calls.spliced_nil ?_))))
  cases ex
  have ok := Inv.okW hw I3
  rw [hw]
  exact raw_setd (by omega) (Inv.ditR I3 e) (K.ok ok) (Y.ok ok ry) hl rz (fun v hv w' tk rw' => ⟨v, H3, I3.tok _, rw', q3 v hv⟩) fun hn h' ep' tk R sb => ⟨z, _, Inv.ditW I3 e R sb, rz, q4 hn ep'⟩
theorem pe_xget1 (hw : X.w = Wd.w) (hu : X.A.units + 64 < cLine) (ho : PE X o td) (he : PE X e ty) (m : M1 X o "get" apos e cpos) : PE X (.Call (.Attribute o "get" apos) [e] [] cpos) (tXGet1 td ty) := by
  refine ⟨fun pins s σ H Q I h => ?_⟩
  refine wpAny_Call_method m.base m.few m.line PySem.F.plainAttrs_dict PySem.F.slot_dict_get PySem.F.type_dict_get (thn (ho.run pins s σ H _ I h) fun u s1 ⟨x, H1, I1, rx, ⟨t0, ep0, a0, xs0, ex0, e0⟩, q1⟩ => ?_)
  subst ex0
  obtain rfl : u = Value.ref a0 := rx
  have R0 := Inv.ditR I1 e0
  refine ⟨raw_type R0, raw_noDict R0, ?_⟩
  rw [m.trees]
  refine Calls.callWith_builtin rfl (Calls.evalArgs_plain (Calls.spliced_cons (thn (he.run pins s1 σ H1 _ I1 q1) fun iv s2 ⟨y, H2, I2, ry, t, ep, a, xs, k, ⟨ex, e, K⟩, Y, q2⟩ => Calls.spliced_nil ?_)))
  cases ex
  have ok := Inv.okW hw I2
  rw [hw]
  exact raw_get1 (by omega) (Inv.ditR I2 e) (K.ok ok) (Y.ok ok ry) fun w' tk rw' => ⟨_, H2, I2.tok _, rw', q2⟩
theorem cr_xlen (hw : X.w = Wd.w) : CallR X (.builtin "len") rXLen := by
  intro pins s σ H vs us Q I r h
  obtain ⟨x, t, ep, a, xs, rfl, ⟨rfl, e, K⟩, q⟩ := h
  obtain ⟨u, rfl, rx⟩ := vals1 r
  obtain rfl : u = .ref a := rx
  have R := Inv.ditR I e
  have ok := Inv.okW hw I
  have z := R.1
  rw [sizeLine_eq] at z
  cases t with
  | true =>
    obtain ⟨zs, pr, dd⟩ := raw_A (P := X.prog) R (K.ok ok)
    have hl : xs.length = zs.length := Paired.len pr
    rw [hw]
    refine call_len_dictH (knd := nestedKind X.prog Wd.w) R.2.1 dd (by rw [← hl]; omega) ?_
    exact ⟨.int ((xs.length : Nat) : Int), H, I.tok _, ⟨_, by rw [hl]⟩, q⟩
  | false =>
    obtain ⟨ws, pr, dd⟩ := raw_K (P := X.prog) R
    have hl : xs.length = ws.length := Paired.len pr
    rw [hw]
    refine call_len_dict R.2.1 dd (by rw [← hl]; omega) ?_
    exact ⟨.int ((xs.length : Nat) : Int), H, I.tok _, ⟨_, by rw [hl]⟩, q⟩
end
end Zi

set_option Elab.async false
set_option linter.all false
set_option maxRecDepth 100000
set_option maxHeartbeats 1000000
/-! Zf: dicts by their entries: walks, sorted, dict(pairs). -/
namespace Zi
open PySem PySem.Spec PyProof.Rows L2 Ly
variable [Zi.Wd]
section
variable {P : Program} {h : Heap} {t : Bool} {ep : Nat} {d : Addr} {xs : List DX}
theorem paired_at {α β : Type} {R : α → β → Prop} : ∀ {l : List α} {m : List β}, Paired R l m → ∀ (i : Nat) (a : α), l[i]? = some a → ∃ b, m[i]? = some b ∧ R a b
  | _, _, .nil, i, a, e => by simp at e
  | _, _, .cons r t, 0, a, e => by simp at e; subst e; exact ⟨_, rfl, r⟩
  | _, _, .cons r t, i + 1, a, e => by simpa using paired_at t i a (by simpa using e)
theorem raw_ent (R : RawOf t ep d xs h) : ∃ (o : Obj) (es : Array DictEntry), h.get? d = some o ∧ o.ExactDict ∧ o.data = .dict es ep ∧ es.size = xs.length ∧
    ∀ (i : Nat) (e : DX), xs[i]? = some e → ∃ en, es[i]? = some en ∧ RelV e.2.1 en.key ∧ RelV e.2.2 en.val := by
  obtain ⟨_, _, _, _, zs, o, es, pr, ho, hx, hd, he⟩ := R
  refine ⟨o, es, ho, hx, hd, ?_, fun i e hi => ?_⟩
  · rw [← Array.length_toList, he, List.length_map, ← Paired.len pr]
  · obtain ⟨z, hz, r1, r2, r3⟩ := paired_at pr i e hi
    refine ⟨entX z, ?_, r2, r3⟩
    rw [← Array.getElem?_toList, he, List.getElem?_map, hz]; rfl
end
/-! ### by keys -/
def Itx (t : Bool) (ep : Nat) (d : Addr) (xs : List DX) : It :=
  ⟨fun i H => H d = some (ditO t ep d xs) ∧ i < xs.length, fun i H x H' => H' = H ∧ ∃ e, xs[i]? = some e ∧ x = e.2.1, fun i H => H d = some (ditO t ep d xs) ∧ xs.length ≤ i⟩
def Itxi (t : Bool) (ep : Nat) (d : Addr) (xs : List DX) : It :=
  ⟨fun i H => H d = some (ditO t ep d xs) ∧ i < xs.length, fun i H x H' => ∃ T e, xs[i]? = some e ∧ x = .ref T ∧ H T = none ∧ H' = upd H T (.tup [e.2.1, e.2.2]), fun i H => H d = some (ditO t ep d xs) ∧ xs.length ≤ i⟩
section
variable {P : Program} {w : World} {K : PySem.W.Frag} {tg : Expr} {t : Bool} {ep : Nat} {d : Addr} {xs : List DX}
theorem turn_x (it : Addr) : Turn P w K tg (Itx t ep d xs) [it] it (fun i h => h.IsKeyIter it d i xs.length ep) where
  mem := by simp
  obj := fun i h st b hb => by
    have e : b = it := by simpa using hb
    subst e
    obtain ⟨oi, e, c, dd⟩ := st
    exact ⟨oi, e, fun v z => by rw [dd] at z; cases z⟩
  keep := fun i h h' st k => st.at fun oi e => k it (by simp) oi e
  item := by
    intro X hP hw hK hc i pins s σ H E I hf st hg
    subst hP hw hK
    obtain ⟨hd, hi⟩ := hg
    obtain ⟨f0, f1, f2, f3, f4, f5⟩ := hf it (by simp)
    obtain ⟨o, es, ho, hx, hdt, hsz, ent⟩ := raw_ent (Inv.ditR I hd)
    obtain ⟨en, hen, r1, r2⟩ := ent i xs[i] (List.getElem?_eq_getElem hi)
    refine next_key_item st ho hdt hsz hen fun h' st' sb => ?_
    have I1 : Inv X pins σ H { s with heap := h' } := I.turned (t' := s.toks) (fun b ob hb e => (sb.2 b hb).trans e) f0 f1 f3 f4 f5
    obtain ⟨oi, e, c, dd⟩ := id st'
    exact ⟨en.key, rfl, go_of (s := { s with heap := h' }) e c dd (by decide) ⟨xs[i].2.1, H, I1, r1, ⟨rfl, _, List.getElem?_eq_getElem hi, rfl⟩, st', fun b hb => (hf b hb).1⟩⟩
  done := by
    intro X hP hw hK hc i pins s σ H E I hf st hg
    subst hP hw hK
    obtain ⟨hd, hi⟩ := hg
    obtain ⟨f0, f1, f2, f3, f4, f5⟩ := hf it (by simp)
    obtain ⟨o, es, ho, hx, hdt, hsz, ent⟩ := raw_ent (Inv.ditR I hd)
    exact next_key_end (I.ok.hd hc) st ho hdt hsz hi fun h' eb => ⟨rfl, I.turned (t' := s.toks) (fun b ob hb e => eb b ob hb e) f0 f1 f3 f4 f5⟩
  self := fun A i s Q E st h => by
    refine wpAny_pyIter_slot st.typeIs PySem.F.slot_dict_keyiterator_iter (wpAny_call_entry PySem.F.slot_dict_keyiterator_iter st.typeIs PySem.F.entry_dict_keyiterator_iter ?_ (PySem.F.args_dict_keyiterator_iter_1 _))
    show wpAny _ _ (ret (.ref it)) _ _ s
    exact wpAny_pure ⟨_, rfl, "dict_keyiterator", _, st.typeIs, PySem.F.slot_dict_keyiterator_next.lookup, h⟩
theorem turn_xi {elts : List Expr} {kk : Nat} {tpos : Pos} (it : Addr) : Turn P w K (.Tuple elts kk tpos) (Itxi t ep d xs) [it] it (fun i h => ∃ ok ov, IsItemIter h it d i xs.length ep ok ov) where
  mem := by simp
  obj := fun i h st b hb => by
    have e : b = it := by simpa using hb
    subst e
    obtain ⟨ok, ov, e⟩ := st
    exact ⟨_, e, fun v z => nomatch z⟩
  keep := fun i h h' st k => let ⟨ok, ov, e⟩ := st; ⟨ok, ov, k it (by simp) _ e⟩
  item := by
    intro X hP hw hK hc i pins s σ H E I hf st hg
    subst hP hw hK
    obtain ⟨hd, hi⟩ := hg
    obtain ⟨o, es, ho, hx, hdt, hsz, ent⟩ := raw_ent (Inv.ditR I hd)
    obtain ⟨en, hen, r1, r2⟩ := ent i xs[i] (List.getElem?_eq_getElem hi)
    obtain ⟨ok, ov, he⟩ := st
    rw [← hsz] at he hi
    have hlt : it < s.heap.objs.size := Heap.lt_size he
    have een : es[i] = en := by
      rw [Array.getElem?_eq_getElem hi] at hen
      exact Option.some.inj hen
    refine DT.nextI he ⟨o, ho, hx, hdt⟩ hi fun h' hO hT hz hk => ?_
    refine ⟨_, rfl, wpAny_letOwnedTupleGo_items (s := { s with heap := h' }) hO fun h'' he' sb => ?_⟩
    have hT2 : h''.get? s.heap.objs.size = some { cls := .type "tuple", data := .seq #[es[i].key, es[i].val] } := (sb.2 _ (Nat.ne_of_gt hlt)).trans hT
    have hi' : i < xs.length := by rw [← hsz]; exact hi
    have new : ObjOk X.prog X.w (upd H s.heap.objs.size (.tup [xs[i].2.1, xs[i].2.2])) h'' s.heap.objs.size (.tup [xs[i].2.1, xs[i].2.2]) :=
      ⟨by show 2 ≤ sizeLine; decide, [es[i].key, es[i].val], .cons (by rw [een]; exact r1) (.cons (by rw [een]; exact r2) .nil), ⟨_, hT2, rfl, _, rfl⟩⟩
    have I1 : Inv X pins σ (upd H s.heap.objs.size (.tup [xs[i].2.1, xs[i].2.2])) { s with heap := h'' } :=
      I.turnedNew (t' := s.toks) (ch := [it]) (fun b ob hb e => (sb.2 b (by simpa using hb)).trans (hk b ob (by simpa using hb) e)) hf (Nat.le_refl _) new
    refine ⟨.ref s.heap.objs.size, _, I1, rfl, ⟨_, _, List.getElem?_eq_getElem hi', rfl, I.hok.fresh (Nat.le_refl _), rfl⟩, ⟨_, _, by rw [hsz] at he'; exact he'⟩, fun b hb => ?_⟩
    have e : b = it := by simpa using hb
    rw [e, upd_ne (Nat.ne_of_lt hlt)]
    exact (hf it (by simp)).1
  done := by
    intro X hP hw hK hc i pins s σ H E I hf st hg
    subst hP hw hK
    obtain ⟨hd, hi⟩ := hg
    obtain ⟨f0, f1, f2, f3, f4, f5⟩ := hf it (by simp)
    obtain ⟨o, es, ho, hx, hdt, hsz, ent⟩ := raw_ent (Inv.ditR I hd)
    obtain ⟨ok, ov, he⟩ := st
    rw [← hsz] at he hi
    exact DT.endI (I.ok.hd hc) he ⟨o, ho, hx, hdt⟩ hi fun h' eb => ⟨rfl, I.turned (t' := s.toks) (fun b ob hb e => eb b ob hb e) f0 f1 f3 f4 f5⟩
  self := fun A i s Q E st h => let ⟨_, _, e⟩ := st; PySem.W.kcp_self e h
end
def iXKeys (td : TE) : TI := fun σ H R => td σ H fun x H1 => ∃ t ep a xs, x = .ref a ∧ H1 a = some (ditO t ep a xs) ∧ R (Itx t ep a xs) H1
def iXItems (td : TE) : TI := fun σ H R => td σ H fun x H1 => ∃ t ep a xs, x = .ref a ∧ H1 a = some (ditO t ep a xs) ∧ R (Itxi t ep a xs) H1
section
variable {X : Cx} {tg e : Expr} {td : TE} {apos cpos : Pos}
theorem pi_xkeys (he : PE X e td) : PI X tg e (iXKeys td) := by
  refine ⟨fun pins s σ H R I h => ?_⟩
  refine thn (he.run pins s σ H _ I h) fun u s1 ⟨x, H1, I1, rx, t, ep, a, xs, ex, hd, q⟩ => ?_
  subst ex
  obtain rfl : u = Value.ref a := rx
  have R0 := Inv.ditR I1 hd
  obtain ⟨o, es, ho, hx, hdt, hsz, ent⟩ := raw_ent R0
  refine iter_keys R0.2.1 ho hx hdt (pi_one (tk := s1.toks) I1 _ (turn_x _) ⟨_, Heap.get?_push_size _ rfl, rfl, ?_⟩ q)
  rw [hsz] <;> rfl
theorem pi_xitems {elts : List Expr} {kk : Nat} {tpos : Pos} (he : PE X e td) (hbase : attributeBase e "items" X.env (eval e X.env) = eval e X.env := by rfl) (hline : (apos.endLine == cpos.line) = true := by rfl) :
    PI X (.Tuple elts kk tpos) (.Call (.Attribute e "items" apos) [] [] cpos) (iXItems td) := by
  refine ⟨fun pins s σ H R I h => ?_⟩
  refine wpAny_Call_method (T := "dict") (id := "dict.items") hbase rfl hline PySem.F.plainAttrs_dict PySem.F.slot_dict_items PySem.F.type_dict_items (thn (he.run pins s σ H _ I h) fun u s1 ⟨x, H1, I1, rx, t, ep, a, xs, ex, hd, q⟩ => ?_)
  subst ex
  obtain rfl : u = Value.ref a := rx
  have R0 := Inv.ditR I1 hd
  obtain ⟨o, es, ho, hx, hdt, hsz, ent⟩ := raw_ent R0
  refine ⟨raw_type R0, raw_noDict R0, ?_⟩
  have rw0 : DT.Raw s1.heap a es ep := ⟨o, ho, hx, hdt⟩
  have I2 : Inv X pins σ H1 { s1 with heap := s1.heap.push { cls := .type "dict_items", data := .fields #[.ref a] } } := I1.kept (t' := s1.toks) fun b ob q => Heap.get?_push_of_some _ q
  have fin : wpAny (model X.prog X.w) X.A (pyIter (.ref s1.heap.objs.size)) (PIE X pins σ (.Tuple elts kk tpos) R) X.xe { s1 with heap := s1.heap.push { cls := .type "dict_items", data := .fields #[.ref a] } } := by
    refine DT.iterI (d := a) ⟨_, Heap.get?_push_size _ rfl, rfl, rfl⟩ (rw0.push _) (pi_one (tk := s1.toks) I2 _ (turn_xi _) ⟨.none, .none, ?_⟩ q)
    rw [← hsz]
    exact Heap.get?_push_size _ rfl
  show wpAny _ _ (callWith cpos (.builtin "dict.items") [.ref a] [] []) _ X.xe s1
  exact method_meetsIn PySem.F.slot_dict_items PySem.F.entry_dict_items rfl (PySem.evalArgs_none ⟨rfl, raw_type R0, PySem.F.args_dict_items_1 _, _, DT.meetsItems (es := es) (ep := ep) R0.2.1, rw0, fin⟩)
end
/-! ### sorted(d) -/
section
variable {P : Program} {w : World} {t : Bool} {ep : Nat} {d : Addr} {xs : List DX} {A : Around}
theorem walks_x (hh : A.handled = none) (it : Addr) (hne : d ≠ it) : Walks P w A it [it, d] [it] xs.length (fun i v => ∃ e, xs[i]? = some e ∧ RelV e.2.1 v) (fun i h => h.IsKeyIter it d i xs.length ep ∧ RawOf t ep d xs h) where
  sub := fun b hb => by
    rw [List.mem_singleton.mp hb]; exact List.mem_cons_self
  frame := fun i h h' st k => ⟨st.1.at fun o e => k it (by simp) o e, raw_at st.2 fun o e => k d (by simp) o e⟩
  item := fun i s Q E hi st hQ => by
    obtain ⟨o, es, ho, hx, hdt, hsz, ent⟩ := raw_ent st.2
    obtain ⟨en, hen, r1, r2⟩ := ent i xs[i] (List.getElem?_eq_getElem hi)
    exact next_key_item st.1 ho hdt hsz hen fun h' st' sb => hQ en.key h' s.toks ⟨_, List.getElem?_eq_getElem hi, r1⟩ ⟨st', raw_at st.2 fun o e => (sb.2 d hne).trans e⟩ fun b o hb e => (sb.2 b (by simpa using hb)).trans e
  done := fun s Q E st hQ => by
    obtain ⟨o, es, ho, hx, hdt, hsz, ent⟩ := raw_ent st.2
    exact next_key_end hh st.1 ho hdt hsz (Nat.le_refl _) fun h' eb => hQ h' s.toks fun b o hb e => eb b o (by simpa using hb) e
  self := fun i s Q E st h => by
    refine wpAny_pyIter_slot st.1.typeIs PySem.F.slot_dict_keyiterator_iter (wpAny_call_entry PySem.F.slot_dict_keyiterator_iter st.1.typeIs PySem.F.entry_dict_keyiterator_iter ?_ (PySem.F.args_dict_keyiterator_iter_1 _))
    show wpAny _ _ (ret (.ref it)) _ _ s
    exact wpAny_pure ⟨_, rfl, "dict_keyiterator", _, st.1.typeIs, PySem.F.slot_dict_keyiterator_next.lookup, h⟩
theorem src_x (sy : (d == sysModules) = false) : PySem.W.KdlSrc P w "dict" d d xs.length (fun i v => ∃ e, xs[i]? = some e ∧ RelV e.2.1 v) (fun h => RawOf t ep d xs h) where
  type := fun _ R => raw_type R
  there := fun _ R => let ⟨_, ho⟩ := raw_there R; ⟨Heap.lt_size ho, Heap.lt_size ho⟩
  keep := fun _ _ R k => raw_at R fun o e => k d (.inl rfl) o e
  notList := by decide
  notTuple := by decide
  hint := fun _ _ _ _ R q => PySem.W.kdl_hint_dict (raw_type R) q
  iter := fun A s hh R => by
    obtain ⟨o, es, ho, hx, hdt, hsz, ent⟩ := raw_ent R
    refine ⟨_, _, (fun _ _ hq => iter_keys sy ho hx hdt hq), walks_x hh _ (Nat.ne_of_lt (Heap.lt_size ho)), ⟨⟨_, Heap.get?_push_size _ rfl, rfl, by rw [hsz]; rfl⟩, raw_at R fun o e => Heap.get?_push_of_some _ e⟩⟩
end
theorem each_ofP {xs : List DX} : ∀ {bs : List (V × PyData)} {vs : List Value}, bs.map (·.1) = xs.map (·.2.1) → vs.length = xs.length → (∀ (j : Nat) (v : Value), vs[j]? = some v → ∃ e, xs[j]? = some e ∧ RelV e.2.1 v) → PySem.W.EachIs (fun v (b : V × PyData) => RelV b.1 v) vs bs := by
  induction xs with
  | nil =>
    intro bs vs e1 e2 _
    cases bs with
    | nil => cases vs with
      | nil => exact .nil
      | cons v vs => simp at e2
    | cons b bs => simp at e1
  | cons x xs ih =>
    intro bs vs e1 e2 e3
    cases bs with
    | nil => simp at e1
    | cons b bs =>
      cases vs with
      | nil => simp at e2
      | cons v vs =>
        rw [List.map_cons, List.map_cons] at e1
        injection e1 with e1 e1'
        refine .cons ?_ (ih e1' (by simpa using e2) fun j v hj => by simpa using e3 (j + 1) v (by simpa using hj))
        obtain ⟨e, h1, h2⟩ := e3 0 v rfl
        simp at h1
        subst h1
        show RelV b.1 v
        rw [e1]; exact h2
/-- sorted(d): the keys, as data -/
def rXSort (K : PySem.W.Frag) : List V → Hp → VK → Prop := fun vs H Q => ∃ (t : Bool) (ep : Nat) (a : Addr) (xs : List DX) (bs : List (V × PyData)), vs = [.ref a] ∧ H a = some (ditO t ep a xs) ∧ bs.map (·.1) = xs.map (·.2.1) ∧ (∀ b ∈ bs, Dp K H b.1 b.2) ∧ PySem.W.AllAlike (bs.map Zs.encB) ∧ PySem.W.Sortable (bs.map Zs.encB) ∧ (∀ b ∈ bs, b.2.depth ≤ 60) ∧
  ∀ p, H p = none → Q (.ref p) (upd H p (.lst ((bs.mergeSort (PySem.W.dataLe false Zs.encB)).map (·.1))))
open Zs PySem.W in
theorem cr_xsort {X : Cx} (hc : X.calm = true) (hu : X.A.units + 64 < cLine) : CallR X (.builtin "sorted") (rXSort X.K) := by
  intro pins s σ H vs us Q I r h
  obtain ⟨t, ep, a, xs, bs, rfl, ea, eb, dp, al, so, hd, q⟩ := h
  obtain ⟨u, rfl, rx⟩ := vals1 r
  obtain rfl : u = .ref a := rx
  have R := Inv.ditR I ea
  have hh : X.A.handled = none := I.ok.hd hc
  have hline : xs.length ≤ sizeLine := R.1
  refine Calls.call_function_entry kind_sorted plain_sorted entry_sorted (args_sorted1 _) ?_
  unfold Builtin.«sorted»
  refine wpAny_bind (m := checkCount "sorted" 1 1 _) (wpAny_pure ?_)
  refine wpAny_bind (PySem.W.kdu_collect (A := X.A.in1) (src_x R.2.1) hh R hline fun h1 tk acc k1 it => ?_)
  have el : acc.toList.length = xs.length := by rw [Array.length_toList]; exact it.1
  have ev : PySem.W.EachIs (fun v (b : V × PyData) => RelV b.1 v) acc.toList bs := each_ofP eb el fun j v e => it.2 j v (by rw [← Array.getElem?_toList]; exact e)
  have I1 : Inv X pins σ H { s with heap := h1, toks := tk } := I.kept k1
  refine wpAny_bind (wpAny_newList ?_ (by rw [el]; exact hline))
  generalize hvs : acc.toList = vs at el ev
  have eoL : (h1.push (seqObj "list" vs.toArray 0)).get? h1.objs.size = some (seqObj "list" vs.toArray 0) := Heap.get?_push_size _ rfl
  have er : PySem.W.EachIs (fun v (b : V × PyData) => ∃ as, Reads h1 v (encB b) as) vs bs := (each_in ev).mono fun v b z => Dp.reads I1 b.2 b.1 v (dp b z.2) z.1
  have kp : ∀ b u, h1.get? b = some u → (sortingHeap (h1.push (seqObj "list" vs.toArray 0)) h1.objs.size vs).get? b = some u := fun b u e => by
    rw [sortingHeap_old (Nat.ne_of_lt (Heap.lt_size e)) (Heap.get?_push_of_some _ e)]
  have er' : PySem.W.EachIs (fun v (b : V × PyData) => ∃ as, Reads (sortingHeap (h1.push (seqObj "list" vs.toArray 0)) h1.objs.size vs) v (encB b) as) vs bs := er.mono fun _ _ ⟨as, r⟩ => ⟨as, PyProof.Rows.Reads.keeps kp r⟩
  refine wpAny_bind (wpAny_holding (wpAny_call_entry slot_list_sort ⟨_, eoL, rfl⟩ entry_list_sort (list_sort_vals (κ := PySem.W.dataKind (sortingHeap (h1.push (seqObj "list" vs.toArray 0)) h1.objs.size vs) (bs.map encB)) eoL (PySem.W.SortsAt.data (s := { s with heap := sortingHeap (h1.push (seqObj "list" vs.toArray 0)) h1.objs.size vs, toks := tk }) (PySem.W.each_map (R := fun v d => ∃ as, Reads (sortingHeap (h1.push (seqObj "list" vs.toArray 0)) h1.objs.size vs) v d as) encB er') al so (PySem.W.bound_map fun b hb => ?_)) (by rw [el]; exact hline) ⟨.none, rfl, ?_⟩) (args_list_sort _)))
  · have := hd b hb
    show X.A.units + 1 + 1 + b.2.depth < cLine
    omega
  · have hout := PySem.W.sortVals_data false ev er' al
    generalize hsv : sortVals (PySem.W.dataKind (sortingHeap (h1.push (seqObj "list" vs.toArray 0)) h1.objs.size vs) (bs.map encB)) false vs vs = out at hout ⊢
    have hlen : out.length = vs.length := by rw [← hsv]; exact sortVals_length false rfl
    obtain ⟨c, ec⟩ := sortedHeap_at (vs := vs) (out := out.toArray) eoL
    have vo := vals_eachB hout
    have kp2 : ∀ b u, h1.get? b = some u → (sortedHeap (h1.push (seqObj "list" vs.toArray 0)) h1.objs.size vs out.toArray).get? b = some u := fun b u e => by
      have lt := Heap.lt_size e
      rw [sortedHeap_old (Nat.ne_of_lt lt) (by rw [size_push']; exact Nat.lt_succ_of_lt lt)]
      exact Heap.get?_push_of_some _ e
    have ho : ObjOk X.prog X.w (upd H h1.objs.size (.lst ((bs.mergeSort (PySem.W.dataLe false encB)).map (·.1)))) (sortedHeap (h1.push (seqObj "list" vs.toArray 0)) h1.objs.size vs out.toArray) h1.objs.size (.lst ((bs.mergeSort (PySem.W.dataLe false encB)).map (·.1))) :=
      ⟨by rw [Vals.length vo, hlen, el]; exact hline, out, c, vo, ec⟩
    refine wpAny_pure ⟨_, rfl, ?_⟩
    exact ⟨.ref _, _, I1.laid (t' := tk) kp2 (Nat.le_refl _) ho, rfl, q _ (I1.hok.fresh (Nat.le_refl _))⟩
end Zi

set_option Elab.async false
set_option linter.all false
set_option maxRecDepth 100000
set_option maxHeartbeats 1000000
/-! Zg: dict(pairs); what a comprehension puts to a dict. -/
namespace Zi
open PySem PySem.Spec PyProof.Rows L2 Ly Lc
variable [Zi.Wd]
def putAll (xs es : List DX) : List DX := es.foldl (fun acc e => putX acc e.1 e.2.1 e.2.2) xs
section
variable {P : Program} {H : Hp} {h : Heap} {t : Bool}
theorem putAll_len : ∀ (es xs : List DX), (putAll xs es).length ≤ xs.length + es.length
  | [], xs => by show xs.length ≤ xs.length + 0; omega
  | e :: es, xs => by
    have h1 := putAll_len es (putX xs e.1 e.2.1 e.2.2)
    have h2 := putX_len xs e.1 e.2.1 e.2.2
    show (putAll (putX xs e.1 e.2.1 e.2.2) es).length ≤ _
    rw [List.length_cons]; omega
theorem putAll_sh : ∀ (es : List DX) {xs : List DX}, (∀ x ∈ xs, KSh t x.1 x.2.1) → (∀ x ∈ es, KSh t x.1 x.2.1) → ∀ x ∈ putAll xs es, KSh t x.1 x.2.1
  | [], _, h, _ => h
  | e :: es, _, h, k => putAll_sh es (putX_sh h (k e List.mem_cons_self)) fun x hx => k x (List.mem_cons_of_mem _ hx)
theorem putAll_nodup : ∀ (es : List DX) {xs : List DX}, (xs.map (·.1)).Nodup → ((putAll xs es).map (·.1)).Nodup
  | [], _, h => h
  | e :: es, _, h => putAll_nodup es (putX_nodup h)
theorem pa_putAll {es : List DX} {zs : List ZA} (r : Paired PA es zs) : ∀ {xs : List DX} {ws : List ZA}, Paired PA xs ws → Paired PA (putAll xs es) (PySem.storedAllH ws zs) := by
  induction r with
  | nil => intro xs ws q; exact q
  | @cons e z es zs h1 t1 ih =>
    intro xs ws q
    refine ih ?_
    have := pa_put q e.1 z.2.1 h1.2.2
    rw [← h1.2.1, h1.1] at this
    show Paired PA (putX xs e.1 e.2.1 e.2.2) (storedH ws z.1 z.2.1 z.2.2)
    rw [h1.1]
    exact this
theorem pk_putAll {es : List DX} {vs : List (Key × Value)} (r : Paired PK es vs) : ∀ {xs : List DX} {ws : List (Key × Value)}, Paired PK xs ws → Paired PK (putAll xs es) (merged ws vs) := by
  induction r with
  | nil => intro xs ws q; exact q
  | @cons e z es zs h1 t1 ih =>
    intro xs ws q
    refine ih ?_
    have := pk_put q z.1 h1.2.2
    rw [← h1.1, ← h1.2.1] at this
    exact this
end
/-- dict(l), l a list of pairs -/
def rXDict (K : PySem.W.Frag) : List V → Hp → VK → Prop := fun vs H Q => ∃ (a : Addr) (ps : List Addr) (es : List DX) (t : Bool), vs = [.ref a] ∧ SqL K H a (ps.map V.ref) ∧ Paired (fun (p : Addr) (e : DX) => SqT K H p [e.2.1, e.2.2]) ps es ∧ (∀ e ∈ es, YH H t e.1 e.2.1) ∧
  ∀ p ep, H p = none → Q (.ref p) (upd H p (ditO t ep p (putAll [] es)))
section
variable {X : Cx} {pins : List (Addr × Obj)} {σ : L2.St} {H : Hp} {s : Shared}
theorem prs_of (I : Inv X pins σ H s) : ∀ {ps : List Addr} {es : List DX}, Paired (fun (p : Addr) (e : DX) => SqT X.K H p [e.2.1, e.2.2]) ps es →
    ∃ prs : List (Value × Value), Paired (fun (e : DX) (q : Value × Value) => RelV e.2.1 q.1 ∧ RelV e.2.2 q.2) es prs ∧ prs.length = ps.length ∧ ∀ (j : Nat) (q : Value × Value), prs[j]? = some q → ∃ b, ps[j]? = some b ∧ IsTup s.heap b #[q.1, q.2]
  | _, _, .nil => ⟨[], .nil, rfl, fun j q e => by simp at e⟩
  | _, _, .cons (a := p) (b := e) h0 t0 => by
    obtain ⟨prs, r, hl, hp⟩ := prs_of I t0
    obtain ⟨its, rv, ht, _⟩ := I.tuple h0
    obtain ⟨u, y, rfl, ru, ry⟩ := vals2 rv
    refine ⟨(u, y) :: prs, .cons ⟨ru, ry⟩ r, by rw [List.length_cons, List.length_cons, hl], fun j q ej => ?_⟩
    cases j with
    | zero => cases ej; exact ⟨p, rfl, ht⟩
    | succ j => simpa using hp j q (by simpa using ej)
theorem zs_of {es : List DX} {prs : List (Value × Value)} (r : Paired (fun (e : DX) (q : Value × Value) => RelV e.2.1 q.1 ∧ RelV e.2.2 q.2) es prs) (sh : ∀ e ∈ es, KSh true e.1 e.2.1) :
    ∃ zs : List ZA, Paired PA es zs ∧ zs.length = prs.length ∧ ∀ (j : Nat) k v, prs[j]? = some (k, v) → ∃ q b, zs[j]? = some (q, b, v) ∧ k = .ref b := by
  induction r with
  | nil => exact ⟨[], .nil, rfl, fun j k v e => by simp at e⟩
  | @cons e q es prs h1 t1 ih =>
    obtain ⟨zs, r1, r2, r3⟩ := ih fun x hx => sh x (List.mem_cons_of_mem _ hx)
    obtain ⟨_, _, b, eb⟩ := sh e List.mem_cons_self
    obtain ⟨h1, h2⟩ := h1
    rw [eb] at h1
    have h1 : q.1 = Value.ref b := h1
    refine ⟨(e.1, b, q.2) :: zs, .cons ⟨rfl, eb, h2⟩ r1, by rw [List.length_cons, List.length_cons, r2], fun j k v ej => ?_⟩
    cases j with
    | zero => cases ej; exact ⟨_, _, rfl, h1⟩
    | succ j => simpa using r3 j k v (by simpa using ej)
theorem ks_of (X : Cx) {es : List DX} {prs : List (Value × Value)} (r : Paired (fun (e : DX) (q : Value × Value) => RelV e.2.1 q.1 ∧ RelV e.2.2 q.2) es prs) (sh : ∀ e ∈ es, KSh false e.1 e.2.1) :
    ∃ vs : List (Key × Value), Paired PK es vs ∧ vs.length = prs.length ∧ ∀ (j : Nat) k v, prs[j]? = some (k, v) → ∃ q, vs[j]? = some (q, v) ∧ keyIs q k = true := by
  induction r with
  | nil => exact ⟨[], .nil, rfl, fun j k v e => by simp at e⟩
  | @cons e q es prs h1 t1 ih =>
    obtain ⟨vs, r1, r2, r3⟩ := ih fun x hx => sh x (List.mem_cons_of_mem _ hx)
    obtain ⟨k0, e1, e2⟩ := kSh_key (sh e List.mem_cons_self)
    obtain ⟨h1, h2⟩ := h1
    rw [e2] at h1
    refine ⟨(k0, q.2) :: vs, .cons ⟨e1, e2, h2⟩ r1, by rw [List.length_cons, List.length_cons, r2], fun j k v ej => ?_⟩
    cases j with
    | zero => cases ej; exact ⟨_, rfl, kV_is (P := X.prog) (w := X.w) h1⟩
    | succ j => simpa using r3 j k v (by simpa using ej)
theorem cr_xdict (hw : X.w = Wd.w) (hc : X.calm = true) (hu : X.A.units + 64 < cLine) : CallR X (.type "dict") (rXDict X.K) := by
  intro pins s σ H vs us Q I r q
  obtain ⟨a, ps, es, t, rfl, hq, hp, yh, q⟩ := q
  obtain ⟨u, rfl, rx⟩ := vals1 r
  cases rx
  obtain ⟨its, rv, pl, hz⟩ := I.list hq
  cases refs_at rv
  rw [List.length_map] at hz
  obtain ⟨prs, rel, hl, hpr⟩ := prs_of I hp
  have hel : es.length = ps.length := (Paired.len rel).trans hl
  have hh : X.A.handled = none := I.ok.hd hc
  obtain ⟨o, n, ho, hcl, hd, hdat⟩ := pl
  have src := PySem.PairArg.list (prog := X.prog) (w := Wd.w) a (ps.map Value.ref).toArray (fun j => ps.getD j 0) prs
  have okh : PySem.PlainSeq "list" s.heap a (ps.map Value.ref).toArray ∧ PySem.PairItems s.heap (ps.map Value.ref).toArray (fun j => ps.getD j 0) prs := by
    refine ⟨⟨o, n, ho, hcl, hd, hdat⟩, by simp [hl], fun j k v e => ?_⟩
    obtain ⟨b, e1, o', e2, e3, n', e4⟩ := hpr j (k, v) e
    have e5 : ps.getD j 0 = b := by rw [List.getD_eq_getElem?_getD, e1]; rfl
    refine ⟨by simp [e5, e1], .inl ⟨o', by show s.heap.get? (ps.getD j 0) = some o'; rw [e5]; exact e2, e3, n', e4⟩⟩
  have hsy : (s.heap.objs.size == sysModules) = false := beq_eq_false_iff_ne.mpr (Nat.ne_of_gt I.big)
  have hle : (putAll [] es).length ≤ sizeLine := by
    have := putAll_len es []
    rw [List.length_nil] at this
    omega
  have fin : ∀ h' ep tk, (∀ b o, s.heap.get? b = some o → h'.get? b = some o) → RawOf t ep s.heap.objs.size (putAll [] es) h' → EP X pins σ Q (.ref s.heap.objs.size) { s with heap := h', toks := tk } := fun h' ep tk k R =>
    ⟨.ref s.heap.objs.size, _, I.laid (t' := tk) k (Nat.le_refl _) (dit_ok R), rfl, q _ ep (I.hok.fresh (Nat.le_refl _))⟩
  rw [hw]
  cases t with
  | true =>
    have sh : ∀ e ∈ es, KSh true e.1 e.2.1 := fun e he => (yh e he).1
    obtain ⟨zs, r1, r2, r3⟩ := zs_of rel sh
    refine PySem.call_dict_pairsH (knd := nestedKind X.prog Wd.w) (ps := zs) src hh (show X.A.in1.in1.units + 8 < cLine from ?_) okh ⟨r2, fun i key v e => r3 i key v e⟩ (fun h' k => ?_) (by rw [hl]; exact hz) fun h' tk dd k => ?_
    · have : X.A.in1.in1.units = X.A.units + 2 := rfl
      omega
    · have ok' : HOk X.prog Wd.w H h' := fun b u e => by
        refine (Inv.okW hw I b u e).stay (fun c v hc ec => k c v (Nat.ne_of_lt (Heap.lt_size ec)) (by simp) ec) (fun _ z => z) fun _ _ z => z
      have go : ∀ {es : List DX} {zs : List ZA}, Paired PA es zs → (∀ e ∈ es, YH H true e.1 e.2.1) → ∀ x ∈ zs, (nestedKind X.prog Wd.w).is h' x.1 x.2.1 := by
        intro es zs r
        induction r with
        | nil => intro _ x hx; cases hx
        | @cons e z es zs h1 t1 ih =>
          intro yh x hx
          rcases List.mem_cons.mp hx with rfl | hx
          · obtain ⟨a1, a2, a3⟩ := h1
            have ky := (yh e List.mem_cons_self).ok ok' (u := .ref x.2.1) (by rw [a2]; rfl)
            exact ⟨by rw [← a1]; exact ky.2.2 rfl, by rw [← a1]; exact ky.1.2.1⟩
          · exact ih (fun e he => yh e (List.mem_cons_of_mem _ he)) x hx
      exact go r1 yh
    · obtain ⟨ep, R⟩ := A_raw (P := X.prog) hle hsy (putAll_sh es (fun x hx => nomatch hx) sh) (pa_putAll r1 .nil) dd
      exact fin h' ep tk (fun b o e => k b o (by simp) e) R
  | false =>
    have sh : ∀ e ∈ es, KSh false e.1 e.2.1 := fun e he => (yh e he).1
    obtain ⟨ws, r1, r2, r3⟩ := ks_of X rel sh
    refine PySem.call_dict_pairs (knd := mixKind X.prog Wd.w) (kvs := ws) src hh okh ⟨r2, fun i key v e => r3 i key v e⟩ (by rw [hl]; exact hz) fun h' tk dd k => ?_
    obtain ⟨ep, R⟩ := K_raw (P := X.prog) hle hsy (putAll_nodup es List.nodup_nil) (putAll_sh es (fun x hx => nomatch hx) sh) (pk_putAll r1 .nil) dd
    exact fin h' ep tk (fun b o e => k b o (by simp) e) R
/-- what a comprehension puts -/
def rXPut (t : Bool) (D : Addr) : V → V → Hp → (Hp → Prop) → Prop := fun y z H Nx => ∃ ep xs k, H D = some (ditO t ep D xs) ∧ KH H xs ∧ YH H t k y ∧ xs.length < sizeLine ∧ ∀ ep', Nx (upd H D (ditO t ep' D (putX xs k y z)))
theorem xput_ok {t : Bool} {D : Addr} (hw : X.w = Wd.w) (hu : X.A.units + 64 < cLine) : PutR X D (rXPut t D) := by
  intro pins s σ H y z u v Nx I ry rz h
  obtain ⟨ep, xs, k, e, K, Y, hl, n⟩ := h
  have ok := Inv.okW hw I
  rw [hw]
  exact raw_dset (by omega) (Inv.ditR I e) (K.ok ok) (Y.ok ok ry) hl rz fun h' ep' tk R sb => ⟨_, Inv.ditW I e R sb, n ep'⟩
theorem newDict_at {P : Program} {w : World} {A : Around} {E : Value → Shared → Prop} {s : Shared} {Q : Value → Shared → Prop} (h : Q (.ref s.heap.objs.size) { s with heap := s.heap.push { cls := .type "dict", data := .dict #[] } }) :
    wpAny (model P w) A newDict Q E s := wpAny_newObj_type h
end
end Zi

set_option Elab.async false
set_option linter.all false
set_option maxRecDepth 100000
set_option maxHeartbeats 2000000
/-! Zt: sets of tuples (keys of any depth), fewer than 64: the heap's part. -/
namespace Zt
open PySem PySem.Spec PyProof.Rows L2
variable [Zi.Wd]
abbrev hsh (k : NestedKey) : Int := k.hash Zi.Wd.w
abbrev EN := NestedKey × Addr
abbrev row (e : EN) : Int × Value := (hsh e.1, Value.ref e.2)
/-- the set at a has the entries L in its table's order -/
structure SetN (h : Heap) (a : Addr) (L : List EN) (es : Array (Int × Value)) (ep : Nat) (t : SetTable) : Prop where
  obj : ∃ o, h.get? a = some o ∧ o.ExactSet ∧ o.data = .set es ep t
  eq : es.toList = L.map row
  tab : TabOk t (L.map fun e => hsh e.1)
  uniq : (L.map (·.1)).Nodup
  ledd : Zi.Wd.w.params.followText "set-order" = true ∨ t.led = true
  free : L.length * 5 < t.mask * 3
  lt64 : L.length < 64
def KIn (h : Heap) (e : EN) : Prop := NestedIs h e.1 (.ref e.2) ∧ e.1.depth ≤ 8
section
variable {P : Program} {A : Around} {E : Value → Shared → Prop} {s : Shared} {a : Addr} {L : List EN} {es : Array (Int × Value)} {ep : Nat} {t : SetTable}
/-! ### a key shows nothing -/
def Dull (P : Program) (n : Nat) (s : Shared) (v : Value) : Prop := ∀ (A : Around) (E : Value → Shared → Prop) (Q : Bool → Shared → Prop), Q false s → wpAny (model P Zi.Wd.w) A (ofAClassStatement n v) Q E s
theorem Dull.flat {n : Nat} {v : Value} (h : ofAClassStatement n v = pure false) : Dull P n s v := fun A E Q q => by rw [h]; exact wpAny_pure q
theorem Dull.tup {n m : Nat} {b : Addr} {o : Obj} {vs : Array Value} (ho : s.heap.get? b = some o) (hc : o.cls = .type "tuple") (hd : o.data = .seq vs m) (hv : ∀ v ∈ vs.toList, Dull P n s v) : Dull P (n + 1) s (.ref b) := fun A E Q q => by
  unfold ofAClassStatement
  refine wpAny_bind (wpAny_typeOf ⟨o, ho, hc⟩ ?_)
  dsimp only
  rw [if_pos (by decide)]
  refine wpAny_bind (wpAny_pure ?_)
  rw [if_neg (by decide)]
  try refine wpAny_bind (wpAny_pure ?_)
  refine wpAny_bind (wpAny_seqItems ho hd ?_)
  dsimp only
  refine wpAny_bind ?_
  show wpAny _ _ (forIn vs _ _) _ _ s
  rw [← Array.forIn_toList]
  refine wpAny_forIn_list _ (fun l r u => (∀ v ∈ l, Dull P n s v) ∧ u = s ∧ r.1 = none) _ ?_ ?_ _ _ ⟨hv, rfl, rfl⟩
  · rintro v l r u ⟨hl, rfl, hr⟩
    refine wpAny_bind (hl v List.mem_cons_self _ _ _ ?_)
    rw [if_neg (by decide)]
    exact wpAny_pure ⟨fun y hy => hl y (List.mem_cons_of_mem _ hy), rfl, rfl⟩
  · rintro ⟨r1, r2⟩ u ⟨_, rfl, hr⟩
    cases (show r1 = none from hr)
    exact wpAny_pure q
mutual
theorem dull_key : ∀ (k : NestedKey) (v : Value) (n : Nat), NestedIs s.heap k v → k.depth ≤ n → Dull P n s v
  | .none, _, n, x, _ => by cases x; exact .flat (by cases n <;> rfl)
  | .num i, _, n, x, _ => by cases x <;> exact .flat (by cases n <;> rfl)
  | .text y, _, n, x, _ => by cases x; exact .flat (by cases n <;> rfl)
  | .tup ks, _, n, x, hn => by
    cases x with | tup hg hc hd hk => ?_
    simp only [NestedKey.depth] at hn
    obtain ⟨m, rfl⟩ : ∃ m, n = m + 1 := ⟨n - 1, by omega⟩
    exact .tup hg hc hd (dull_keys ks _ m hk (by omega))
theorem dull_keys : ∀ (ks : List NestedKey) (vs : List Value) (n : Nat), NestedAll s.heap ks vs → NestedKey.depthAll ks ≤ n → ∀ v ∈ vs, Dull P n s v
  | [], _, n, x, _, v, hv => by cases x; cases hv
  | k :: ks, _, n, x, hn, v, hv => by
    cases x with | cons x1 x2 => ?_
    simp only [NestedKey.depthAll] at hn
    rcases List.mem_cons.mp hv with rfl | hv
    · exact dull_key k _ n x1 (by omega)
    · exact dull_keys ks _ n x2 (by omega) v hv
end
/-- hashByValue answers, whatever it is -/
def Asked (P : Program) (n : Nat) (s : Shared) (v : Value) : Prop := ∀ (A : Around) (E : Value → Shared → Prop) (Q : Bool → Shared → Prop), (∀ b, Q b s) → wpAny (model P Zi.Wd.w) A (hashByValue n v) Q E s
theorem Asked.flat {n : Nat} {v : Value} {b : Bool} (h : hashByValue n v = pure b) : Asked P n s v := fun A E Q q => by rw [h]; exact wpAny_pure (q b)
theorem Asked.tup {n m : Nat} {b : Addr} {o : Obj} {vs : Array Value} (ho : s.heap.get? b = some o) (hc : o.cls = .type "tuple") (hd : o.data = .seq vs m) (hv : ∀ v ∈ vs.toList, Asked P n s v) : Asked P (n + 1) s (.ref b) := fun A E Q q => by
  have hT : s.TypeIs (.ref b) "tuple" := ⟨o, ho, hc⟩
  unfold hashByValue
  refine wpAny_bind (wpAny_specialOf hT F.slot_tuple_hash.lookup ?_)
  show wpAny _ _ (seqItems? (.ref b) >>= _) _ _ s
  refine wpAny_bind (wpAny_seqItems ho hd ?_)
  refine wpAny_bind ?_
  show wpAny _ _ (forIn vs _ _) _ _ s
  rw [← Array.forIn_toList]
  refine wpAny_forIn_list _ (fun l r u => (∀ v ∈ l, Asked P n s v) ∧ u = s) _ ?_ ?_ _ _ ⟨hv, rfl⟩
  · rintro v l r u ⟨hl, rfl⟩
    refine wpAny_bind (hl v List.mem_cons_self _ _ _ fun c => ?_)
    cases c with
    | true =>
      rw [if_neg (by decide)]
      exact wpAny_pure ⟨fun y hy => hl y (List.mem_cons_of_mem _ hy), rfl⟩
    | false =>
      rw [if_pos (by decide)]
      exact wpAny_pure (wpAny_pure (q _))
  · rintro ⟨r1, r2⟩ u ⟨_, rfl⟩
    cases r1 with
    | none => exact wpAny_pure (q _)
    | some c => exact wpAny_pure (q _)
mutual
theorem asked_key : ∀ (k : NestedKey) (v : Value) (n : Nat), NestedIs s.heap k v → k.depth ≤ n → Asked P n s v
  | .none, _, n, x, _ => by cases x; exact .flat (b := true) (by cases n <;> rfl)
  | .num i, _, n, x, _ => by cases x <;> exact .flat (b := true) (by cases n <;> rfl)
  | .text y, _, n, x, _ => by cases x; exact .flat (b := false) (by cases n <;> rfl)
  | .tup ks, _, n, x, hn => by
    cases x with | tup hg hc hd hk => ?_
    simp only [NestedKey.depth] at hn
    obtain ⟨m, rfl⟩ : ∃ m, n = m + 1 := ⟨n - 1, by omega⟩
    exact .tup hg hc hd (asked_keys ks _ m hk (by omega))
theorem asked_keys : ∀ (ks : List NestedKey) (vs : List Value) (n : Nat), NestedAll s.heap ks vs → NestedKey.depthAll ks ≤ n → ∀ v ∈ vs, Asked P n s v
  | [], _, n, x, _, v, hv => by cases x; cases hv
  | k :: ks, _, n, x, hn, v, hv => by
    cases x with | cons x1 x2 => ?_
    simp only [NestedKey.depthAll] at hn
    rcases List.mem_cons.mp hv with rfl | hv
    · exact asked_key k _ n x1 (by omega)
    · exact asked_keys ks _ n x2 (by omega) v hv
end
theorem unseen {k : NestedKey} {x : Addr} (hx : KIn s.heap (k, x)) {ys : List Value} (hy : ∀ y ∈ ys, ∃ e : EN, y = Value.ref e.2 ∧ KIn s.heap e) {Q : Bool → Shared → Prop} (q : Q false s) : wpAny (model P Zi.Wd.w) A (searchCouldBeSeen (.ref x) ys) Q E s := by
  unfold searchCouldBeSeen
  refine wpAny_bind ?_
  refine wpAny_forIn_list _ (fun l r u => (∀ y ∈ l, ∃ e : EN, y = Value.ref e.2 ∧ KIn s.heap e) ∧ u = s ∧ r.1 = none) _ ?_ ?_ _ _ ⟨hy, rfl, rfl⟩
  · rintro v l r u ⟨hl, rfl, hr⟩
    obtain ⟨e, rfl, ke⟩ := hl v List.mem_cons_self
    have hl' := fun y hy => hl y (List.mem_cons_of_mem _ hy)
    dsimp only
    split
    · exact wpAny_pure ⟨hl', rfl, rfl⟩
    · refine wpAny_bind (quiet_key k _ 8 _ hx.1 hx.2 _ _ _ ?_)
      rw [if_neg (by decide)]
      try refine wpAny_bind (wpAny_pure ?_)
      refine wpAny_bind (quiet_key e.1 _ 8 _ ke.1 ke.2 _ _ _ ?_)
      rw [if_neg (by decide)]
      try refine wpAny_bind (wpAny_pure ?_)
      refine wpAny_bind (dull_key k _ 8 hx.1 hx.2 _ _ _ ?_)
      rw [if_neg (by decide)]
      try refine wpAny_bind (wpAny_pure ?_)
      refine wpAny_bind (dull_key e.1 _ 8 ke.1 ke.2 _ _ _ ?_)
      rw [if_neg (by decide)]
      try refine wpAny_bind (wpAny_pure ?_)
      exact wpAny_pure ⟨hl', rfl, rfl⟩
  · rintro ⟨r1, r2⟩ u ⟨_, rfl, hr⟩
    cases (show r1 = none from hr)
    exact wpAny_pure q
/-! ### the search -/
theorem SetN.ent (R : SetN s.heap a L es ep t) {i : Nat} {e : EN} (h : L[i]? = some e) : es[i]? = some (row e) := by
  rw [← Array.getElem?_toList, R.eq, List.getElem?_map, h]; rfl
theorem SetN.count (R : SetN s.heap a L es ep t) : es.size = L.length := by rw [← Array.length_toList, R.eq, List.length_map]
theorem SetN.places (R : SetN s.heap a L es ep t) : t.place.toList.length = L.length := by
  have := R.tab.sz
  rw [List.length_map] at this
  rw [Array.length_toList]; exact this
theorem SetN.fit (R : SetN s.heap a L es ep t) : t.fits es.size = true := by
  have h1 := R.places
  rw [Array.length_toList] at h1
  have h2 := R.free
  unfold SetTable.fits SetTable.fill
  rw [R.tab.dm, R.count, h1]
  simp only [beq_self_eq_true, Bool.true_and, decide_eq_true_eq]
  show L.length + 0 ≤ t.mask
  omega
theorem SetN.firm (R : SetN s.heap a L es ep t) : t.gaveWay = true → False := fun z => by
  unfold SetTable.gaveWay at z
  rw [mask_odd R.tab.mok] at z
  exact absurd z (by decide)
theorem no_dummy (m : Nat) : ∀ (n : Nat) (p : SetTable.Probe), p.dummy = none → (nth m p n).dummy = none
  | 0, _, h => h
  | n + 1, p, h => no_dummy m n (adv m p) (by unfold adv; split <;> exact h)
theorem seek (R : SetN s.heap a L es ep t) (KI : ∀ e ∈ L, KIn s.heap e) {k : NestedKey} {x : Addr} (hx : KIn s.heap (k, x)) (hu : A.units + 10 < cLine) {K : Nat} (kf : K < 10 * SetTable.turns t.mask)
    (kout : (nth t.mask (t.probeStart (hsh k)) K).j ∉ t.place.toList) (kin : ∀ c, c < K → (nth t.mask (t.probeStart (hsh k)) c).j ∈ t.place.toList) {Q : SetFound → Shared → Prop}
    (yes : k ∈ L.map (·.1) → Q (.there none) s) (no : k ∉ L.map (·.1) → Q (.free (nth t.mask (t.probeStart (hsh k)) K).j false) s) :
    ∀ (f c : Nat) (st : Option SetTable.Probe), st.getD (t.probeStart (hsh k)) = nth t.mask (t.probeStart (hsh k)) c → c ≤ K → K < f + c → (∀ (i : Nat) (e : EN), L[i]? = some e → e.1 = k → ∃ b, c ≤ b ∧ b < K ∧ t.place.toList[i]? = some (nth t.mask (t.probeStart (hsh k)) b).j) →
      wpAny (model P Zi.Wd.w) A (setSearchFrom a (.ref x) (hsh k) true f st) Q E s := by
  intro f
  generalize hpb : t.probeStart (hsh k) = pb at kout kin no ⊢
  have pd : pb.dummy = none := by rw [← hpb]; rfl
  induction f with
  | zero => intro c st _ h1 h2; omega
  | succ f ih =>
    intro c st hst hc hf hre
    obtain ⟨o, ho, xo, hd⟩ := R.obj
    rw [setSearchFrom_succ]
    refine wpAny_bind (wpAny_setState_of ho hd R.fit ?_)
    dsimp only
    refine wp_if_neg (fun z => R.firm z) ?_
    try refine wpAny_bind (wpAny_pure ?_)
    have sh : ∀ q, nth t.mask (nth t.mask pb c) q = nth t.mask pb (c + q) := fun q => (nth_add t.mask c pb q).symm
    have toK : c + (K - c) = K := by omega
    have hv : ∀ (i : Nat) (e : EN), L[i]? = some e → (es[i]?.map (·.1)).getD 0 = hsh e.1 := fun i e q => by rw [R.ent q]; rfl
    have spec := go_spec t R.tab.ris R.tab.dm (fun i => (es[i]?.map (·.1)).getD 0) (hsh k) (10 * SetTable.turns t.mask) (K - c) (nth t.mask pb c) (no_dummy _ _ _ pd) (by omega) (fun q hq => by rw [sh]; exact kin _ (by omega)) (by rw [sh, toK]; exact kout)
    have inL : ∀ (i : Nat) (j : Nat), t.place.toList[i]? = some j → ∃ e, L[i]? = some e ∧ e ∈ L := fun i j q => by
      have h1 := (List.getElem?_eq_some_iff.mp q).1
      rw [R.places] at h1
      exact ⟨L[i], List.getElem?_eq_getElem h1, List.getElem_mem h1⟩
    rw [hpb, hst]
    rcases spec with ⟨q, i, hq, hi, hh, hno, hpr⟩ | ⟨hno, hpr⟩
    · rw [show t.probe (fun i => (es[i]?.map (·.1)).getD 0) (hsh k) (nth t.mask pb c) = _ from hpr]
      dsimp only
      obtain ⟨e, he, em⟩ := inL _ _ hi
      have ke := KI e em
      have next : wpAny (model P Zi.Wd.w) A (searchRest a (.ref x) (hsh k) true f es t (nth t.mask (nth t.mask pb c) q).j i (nth t.mask (nth t.mask pb c) (q + 1))) Q E s := by
        unfold searchRest
        rw [R.ent he]
        dsimp only
        refine wpAny_bind (wpAny_holding (eqAt_key e.1 k A s _ _ ke.1 hx.1 (by have := ke.2; have := hx.2; show A.units + min e.1.depth k.depth < cLine; omega) _ _ _ _ ?_))
        refine wpAny_bind (wpAny_setState_of ho hd R.fit ?_)
        dsimp only
        rw [← NestedKey.decide_eq]
        by_cases same : e.1 = k
        · rw [decide_eq_true same]
          refine wp_if_pos (by decide) ?_
          exact wpAny_pure (yes (List.mem_map.mpr ⟨e, em, same⟩))
        · rw [decide_eq_false same]
          refine wp_if_neg (by decide) ?_
          try refine wpAny_bind (wpAny_pure ?_)
          rw [sameMem]
          have live := slot_live R.tab.ris hi
          simp only [if_true, live, R.ent he]
          refine wpAny_bind (wpAny_isSame_ref_self (wpAny_bind (wpAny_pure ?_)))
          simp only [if_true, Bool.false_eq_true, if_false]
          rw [sh]
          refine ih (c + (q + 1)) _ rfl (by omega) (by omega) fun i0 e0 h0 k0 => ?_
          obtain ⟨b, b1, b2, b3⟩ := hre i0 e0 h0 k0
          refine ⟨b, ?_, b2, b3⟩
          by_cases lo : b < c + q
          · refine (hno (b - c) i0 (by omega) (by rw [sh, show c + (b - c) = b by omega]; exact b3) ?_).elim
            show (es[i0]?.map (·.1)).getD 0 = _
            rw [hv i0 e0 h0, k0]
          · by_cases eq : b = c + q
            · have l2 := slot_live R.tab.ris b3
              rw [eq, ← sh, live] at l2
              injection l2 with l2
              rw [← l2, he] at h0
              cases h0
              exact (same k0).elim
            · omega
      by_cases hl : t.led = true
      · refine wp_if_neg (by rw [hl]; decide) ?_
        try refine wpAny_bind (wpAny_pure ?_)
        exact next
      · refine wp_if_pos (by rw [Bool.not_eq_true] at hl; rw [hl]; decide) ?_
        refine wpAny_bind (unseen hx (fun y hy => ?_) ?_)
        · obtain ⟨z, hz, rfl⟩ := List.mem_map.mp hy
          have hz2 : z ∈ es.toList := by
            have : z ∈ es ∧ z.1 = hsh k := by simpa using hz
            simpa using this.1
          rw [R.eq] at hz2
          obtain ⟨e', he', rfl⟩ := List.mem_map.mp hz2
          exact ⟨e', rfl, KI e' he'⟩
        · refine wp_if_neg (by decide) ?_
          try refine wpAny_bind (wpAny_pure ?_)
          exact next
    · rw [show t.probe (fun i => (es[i]?.map (·.1)).getD 0) (hsh k) (nth t.mask pb c) = _ from hpr]
      dsimp only
      rw [sh, toK]
      refine wpAny_pure (no fun hm => ?_)
      obtain ⟨e0, m0, k0⟩ := List.mem_map.mp hm
      obtain ⟨i0, hi0, e1⟩ := List.getElem_of_mem m0
      have h0 : L[i0]? = some e0 := by rw [List.getElem?_eq_getElem hi0, e1]
      obtain ⟨b, b1, b2, b3⟩ := hre i0 e0 h0 k0
      refine hno (b - c) i0 (by omega) (by rw [sh, show c + (b - c) = b by omega]; exact b3) ?_
      show (es[i0]?.map (·.1)).getD 0 = _
      rw [hv i0 e0 h0, k0]
theorem sought (R : SetN s.heap a L es ep t) (KI : ∀ e ∈ L, KIn s.heap e) {k : NestedKey} {x : Addr} (hx : KIn s.heap (k, x)) (hu : A.units + 10 < cLine) {Q : SetFound → Shared → Prop} (yes : k ∈ L.map (·.1) → Q (.there none) s)
    (no : ∀ K, k ∉ L.map (·.1) → way t.mask (hsh k) K ∉ t.place.toList → (∀ c, c < K → way t.mask (hsh k) c ∈ t.place.toList) → Q (.free (way t.mask (hsh k) K) false) s) : wpAny (model P Zi.Wd.w) A (setSearch a (.ref x) (hsh k) true) Q E s := by
  have h2 := R.free
  obtain ⟨K, kf, kout, kin⟩ := R.tab.first (by rw [List.length_map]; omega) (hsh k)
  have small : K < 100000 := by
    unfold SetTable.turns at kf
    rcases R.tab.mok with e | e | e <;> (rw [e] at kf; omega)
  unfold setSearch
  refine seek R KI hx hu kf kout kin yes (fun n => no K n kout kin) 100000 0 none rfl (Nat.zero_le _) (by omega) fun i e hi he => ?_
  have hl : (L.map fun e => hsh e.1)[i]? = some (hsh k) := by rw [List.getElem?_map, hi, ← he]; rfl
  have hil : i < t.place.toList.length := by rw [R.places]; exact (List.getElem?_eq_some_iff.mp hi).1
  obtain ⟨c, c1, c2⟩ := R.tab.before kout hl (List.getElem?_eq_getElem hil)
  exact ⟨c, Nat.zero_le _, c1, by rw [List.getElem?_eq_getElem hil, ← c2]; rfl⟩
/-! ### adding -/
theorem reordered {α : Type} (f : α → Int × Value) {L : List α} {es : Array (Int × Value)} {order : Array Nat} (hr : es.toList = L.map f) (hp : order.toList.Perm (List.range L.length)) :
    ∃ M : List α, (order.filterMap (es[·]?)).toList = M.map f ∧ M.Perm L ∧ (M.map fun e => (f e).1) = order.toList.map fun i => (es.map (·.1)).getD i 0 := by
  have ent : ∀ i, es[i]? = (L[i]?).map f := fun i => by rw [← Array.getElem?_toList, hr, List.getElem?_map]
  have part : ∀ l : List Nat, (∀ i ∈ l, i < L.length) → ((l.filterMap fun i => L[i]?).map fun e => (f e).1) = l.map fun i => (es.map (·.1)).getD i 0 := by
    intro l
    induction l with
    | nil => intro _; rfl
    | cons i l ih =>
      intro hl
      have hi := hl i List.mem_cons_self
      rw [List.filterMap_cons_some (List.getElem?_eq_getElem hi), List.map_cons, List.map_cons, ih fun j hj => hl j (List.mem_cons_of_mem _ hj)]
      refine congrArg (· :: _) ?_
      rw [Array.getD_eq_getD_getElem?, Array.getElem?_map, ent, List.getElem?_eq_getElem hi]; rfl
  have whole : ∀ n, n ≤ L.length → ((List.range n).filterMap fun i => L[i]?) = L.take n := by
    intro n
    induction n with
    | zero => intro _; rfl
    | succ n ih =>
      intro hn
      rw [List.range_succ, List.filterMap_append, ih (by omega), List.filterMap_cons_some (List.getElem?_eq_getElem (show n < L.length by omega)), List.take_succ, List.getElem?_eq_getElem (show n < L.length by omega)]
      rfl
  refine ⟨order.toList.filterMap fun i => L[i]?, ?_, ?_, part _ fun i hi => List.mem_range.mp (hp.mem_iff.mp hi)⟩
  · rw [Array.toList_filterMap, List.map_filterMap]
    congr 1
    funext i
    exact ent i
  · have := hp.filterMap fun i => L[i]?
    rwa [whole _ (Nat.le_refl _), List.take_length] at this
theorem kin_off {h h' : Heap} {b : Addr} {o : Obj} {es : Array (Int × Value)} {ep : Nat} {t : SetTable} {e : EN} (K : KIn h e) (ho : h.get? b = some o) (hd : o.data = .set es ep t) (sb : Heap.SameBut b h h') : KIn h' e := by
  refine ⟨NestedIs.at (fun c u vs n hc hq => ?_) _ _ K.1, K.2⟩
  refine (sb.2 c fun z => ?_).trans hc
  subst z
  rw [ho] at hc
  cases hc
  rw [hd] at hq
  cases hq
theorem relaid {o : Obj} (ho : s.heap.get? a = some o) (xo : o.ExactSet) (hd : o.data = .set es ep t) (eq : es.toList = L.map row) (sz : t.place.size = es.size) (dm : t.dummies = #[]) (fl : es.size ≤ t.mask) (uniq : (L.map (·.1)).Nodup)
    (ld : Zi.Wd.w.params.followText "set-order" = true ∨ t.led = true) (lt : L.length < 64) {wanted M : Nat} (hw : SetTable.sizeAbove wanted - 1 = M) (hM : MaskOk M) (hw2 : SetTable.sizeAbove wanted ≤ 128) (hn : L.length * 5 < M * 3) {Q : Unit → Shared → Prop}
    (hQ : ∀ h' L' es' ep' t', Heap.SameBut a s.heap h' → SetN h' a L' es' ep' t' → L'.Perm L → Q () { s with heap := h' }) : wpAny (model P Zi.Wd.w) A (setRelay a wanted) Q E s := by
  have cnt : es.size = L.length := by rw [← Array.length_toList, eq, List.length_map]
  have fit : t.fits es.size = true := by
    unfold SetTable.fits SetTable.fill
    rw [dm, sz]
    simp only [beq_self_eq_true, Bool.true_and, decide_eq_true_eq]
    show es.size + 0 ≤ t.mask
    omega
  obtain ⟨t', order, e, hp, T, em, el, _, _⟩ := relaid_ok t (hs := es.map (·.1)) (wanted := wanted) hw hM (by rw [Array.size_map]; omega)
  rw [Array.size_map, cnt] at hp
  obtain ⟨N, r1, r2, r3⟩ := reordered row eq hp
  rw [← r3] at T
  have nsz : (order.filterMap (es[·]?)).size = es.size := by rw [← Array.length_toList, r1, List.length_map, r2.length_eq, cnt]
  rw [setRelay_eq]
  refine wpAny_bind (wpAny_setState_of ho hd fit ?_)
  dsimp only
  refine wp_if_neg (by rw [sizeLine_eq]; omega) ?_
  try refine wpAny_bind (wpAny_pure ?_)
  rw [e]
  dsimp only
  refine wpAny_bind (wp_if_neg (by rw [nsz]; simp) ?_)
  try refine wpAny_bind (wpAny_pure ?_)
  refine wpAny_pure ?_
  dsimp only
  have len : N.length = L.length := r2.length_eq
  refine wpAny_storeSet_of ho hd (hQ _ N _ (ep + 1) t' (Heap.SameBut.update s.heap a _) ⟨⟨_, store_at ho hd, ⟨xo.1, xo.2.1, xo.2.2⟩, rfl⟩, r1, T, (r2.map (·.1)).nodup_iff.mpr uniq, by rw [el]; exact ld, by rw [len, em]; exact hn, by rw [len]; exact lt⟩ r2) (by rw [nsz, sizeLine_eq]; omega)
theorem added (R : SetN s.heap a L es ep t) (KI : ∀ e ∈ L, KIn s.heap e) {k : NestedKey} {x : Addr} (hx : KIn s.heap (k, x)) (hu : A.units + 10 < cLine) (lt : L.length + 1 < 64) {Q : Bool → Shared → Prop}
    (hQ : ∀ b h' L' es' ep' t', Heap.SameBut a s.heap h' → SetN h' a L' es' ep' t' → (k ∈ L.map (·.1) → L' = L) → (k ∉ L.map (·.1) → L'.Perm ((k, x) :: L)) → Q b { s with heap := h' }) :
    wpAny (model P Zi.Wd.w) A (setAddHashed a (.ref x) (hsh k)) Q E s := by
  obtain ⟨o, ho, xo, hd⟩ := R.obj
  have cnt := R.count
  have room := R.free
  unfold setAddHashed
  refine wpAny_holding ?_
  rw [show (100000 : Nat) = 99999 + 1 from rfl, setAddHashedIn_succ]
  refine wpAny_bind (wpAny_setState_of ho hd R.fit ?_)
  dsimp only
  refine wp_if_neg (by simp [byScan, Value.scannable]) ?_
  try refine wpAny_bind (wpAny_pure ?_)
  refine wpAny_bind (sought R KI hx hu (fun hm => ?_) fun K hm hK hb => ?_)
  · dsimp only
    exact wpAny_pure (hQ false s.heap L es ep t (Heap.SameBut.refl a s.heap) R (fun _ => rfl) fun z => (z hm).elim)
  dsimp only
  refine wpAny_bind (wpAny_setState_of ho hd R.fit ?_)
  dsimp only
  obtain ⟨q1, q2, q3, q4, q5, _, _, _, q9⟩ := R.tab.put hK hb
  generalize t.put (way t.mask (hsh k) K) = pt at q1 q3 q4 q5 q9 ⊢
  obtain ⟨t1, pp⟩ := pt
  dsimp only at q1 q3 q4 q5 q9 ⊢
  subst q1
  generalize SetTable.below t.place (way t.mask (hsh k) K) = pp at q2 q3 ⊢
  suffices hs : ∀ b : Bool, wpAny (model P Zi.Wd.w) A (do
      storeSet a (SetTable.insertAt es pp (hsh k, Value.ref x)) (if b = true then t1 else { t1 with plain := false })
      if (!false && (if b = true then t1 else { t1 with plain := false }).tooFull) = true then do
        setRelay a (SetTable.grown (es.size + 1))
        pure true
      else pure true) Q E s by
    first
      | (refine wpAny_bind ?_
         split
         · exact asked_key k _ 8 hx.1 hx.2 _ _ _ fun b => hs b
         · exact wpAny_pure (hs true))
      | (split
         · exact wpAny_bind (asked_key k _ 8 hx.1 hx.2 _ _ _ fun b => hs b)
         · first | exact hs true | exact wpAny_bind (wpAny_pure (hs true)))
  intro b
  have T2 : ∀ hs', TabOk t1 hs' → TabOk (if b = true then t1 else { t1 with plain := false }) hs' := fun hs' T => by
    cases b with
    | true => exact T
    | false => exact ⟨T.ris, T.dm, T.sz, T.mok, T.bd, T.reach⟩
  have m2 : (if b = true then t1 else { t1 with plain := false }).mask = t.mask := by cases b <;> exact q4
  have l2 : (if b = true then t1 else { t1 with plain := false }).led = t.led := by cases b <;> exact q5
  have f2 : (if b = true then t1 else { t1 with plain := false }).fill = L.length + 1 := by
    rw [List.length_map] at q9
    cases b <;> exact q9
  have q3 := T2 _ q3
  generalize (if b = true then t1 else { t1 with plain := false }) = t2 at q3 m2 l2 f2 ⊢
  have pm : (L.take pp ++ (k, x) :: L.drop pp).Perm ((k, x) :: L) := put_perm L pp (k, x)
  have hin : (SetTable.insertAt es pp (hsh k, Value.ref x)).toList = (L.take pp ++ (k, x) :: L.drop pp).map row := by
    rw [SetTable.toList_insertAt, R.eq, List.map_append, List.map_cons, List.map_take, List.map_drop]
  have hhs : (L.map fun e => hsh e.1).take pp ++ hsh k :: (L.map fun e => hsh e.1).drop pp = (L.take pp ++ (k, x) :: L.drop pp).map fun e => hsh e.1 := by
    rw [List.map_append, List.map_cons, List.map_take, List.map_drop]
  rw [hhs] at q3
  generalize L.take pp ++ (k, x) :: L.drop pp = L1 at pm hin q3
  generalize SetTable.insertAt es pp (hsh k, Value.ref x) = es1 at hin ⊢
  have len : L1.length = L.length + 1 := pm.length_eq
  have cnt1 : es1.size = L.length + 1 := by rw [← Array.length_toList, hin, List.length_map, len]
  have uniq1 : (L1.map (·.1)).Nodup := (pm.map (·.1)).nodup_iff.mpr (List.nodup_cons.mpr ⟨hm, R.uniq⟩)
  have ld : Zi.Wd.w.params.followText "set-order" = true ∨ t2.led = true := by rw [l2]; exact R.ledd
  have sz1 : t2.place.size = es1.size := by
    have := q3.sz
    rw [List.length_map, len] at this
    rw [this, cnt1]
  refine wpAny_bind (wpAny_storeSet_of ho hd ?_ (by rw [cnt1, sizeLine_eq]; omega))
  have sb : Heap.SameBut a s.heap (s.heap.update a (Obj.putSet es1 t2)) := Heap.SameBut.update s.heap a _
  have ho1 := store_at (es' := es1) (t' := t2) ho hd
  generalize s.heap.update a (Obj.putSet es1 t2) = h1 at sb ho1 ⊢
  by_cases hf : t2.tooFull = true
  · refine wp_if_pos (by rw [hf]; rfl) ?_
    unfold SetTable.tooFull at hf
    rw [decide_eq_true_eq, f2, m2] at hf
    have size : (t.mask = 7 ∧ L.length = 4) ∨ (t.mask = 31 ∧ L.length = 18) := by
      rcases R.tab.mok with e | e | e
      · exact .inl ⟨e, by rw [e] at room hf; omega⟩
      · exact .inr ⟨e, by rw [e] at room hf; omega⟩
      · rw [e] at hf; omega
    have go : ∀ M, SetTable.sizeAbove (SetTable.grown (es.size + 1)) - 1 = M → MaskOk M → SetTable.sizeAbove (SetTable.grown (es.size + 1)) ≤ 128 → (L.length + 1) * 5 < M * 3 → wpAny (model P Zi.Wd.w) A (setRelay a (SetTable.grown (es.size + 1)) >>= fun _ => pure true) Q E { s with heap := h1 } := fun M e1 e2 e3 e4 => by
      refine wpAny_bind (relaid (s := { s with heap := h1 }) ho1 ⟨xo.1, xo.2.1, xo.2.2⟩ rfl hin sz1 q3.dm (by rw [cnt1, m2]; rcases size with ⟨e, e'⟩ | ⟨e, e'⟩ <;> omega) uniq1 ld (by omega) e1 e2 e3 (by rw [len]; exact e4) fun h2 L2 es2 ep2 t3 sb2 R2 pm2 => ?_)
      exact wpAny_pure (hQ true h2 L2 es2 ep2 t3 (sb.trans sb2) R2 (fun z => (hm z).elim) fun _ => pm2.trans pm)
    rw [cnt] at go ⊢
    rcases size with ⟨_, e⟩ | ⟨_, e⟩
    · exact go 31 (by rw [e, size_20]) (.inr (.inl rfl)) (by rw [e, size_20]; decide) (by omega)
    · exact go 127 (by rw [e, size_76]) (.inr (.inr rfl)) (by rw [e, size_76]; decide) (by omega)
  · refine wp_if_neg (by rw [Bool.not_eq_true] at hf; rw [hf]; decide) ?_
    unfold SetTable.tooFull at hf
    rw [decide_eq_true_eq, f2, m2] at hf
    exact wpAny_pure (hQ true h1 L1 es1 (ep + 1) t2 sb ⟨⟨_, ho1, ⟨xo.1, xo.2.1, xo.2.2⟩, rfl⟩, hin, q3, uniq1, ld, by rw [len, m2]; omega, by omega⟩ (fun z => (hm z).elim) fun _ => pm)
end
end Zt

set_option Elab.async false
set_option linter.all false
set_option maxRecDepth 100000
set_option maxHeartbeats 1000000
/-! Zh: dicts by their entries, as data: transformers. -/
namespace Zi
open PySem PySem.Spec PyProof.Rows L2 Ly Lc
variable [Zi.Wd]
/-- a key of a dict of tuples; of one of ints and texts -/
def keyX : Bool → D → Option NestedKey
  | false, .int i => some (.num i)
  | false, .str s => some (.text s)
  | true, .tup ds => match nkAll ds with
    | some ks => if NestedKey.depth (.tup ks) ≤ 8 then some (.tup ks) else none
    | none => none
  | _, _ => none
def dlook : List D → List D → NestedKey → Option D
  | k :: ks, d :: ds, q => if nk k = some q then some d else dlook ks ds q
  | _, _, _ => none
def putD (kds : List (D × D)) (q : NestedKey) (kd d : D) : List (D × D) :=
  if (kds.any fun kv => decide (nk kv.1 = some q)) = true then kds.map (fun kv => if nk kv.1 = some q then (kv.1, d) else kv) else kds ++ [(kd, d)]
section
variable {Z : EX} {K : PySem.W.Frag} {B : Bs} {F F' H H' : Hp} {al al' : Nat → Addr} {s s' : AS} {σ σ' : L2.St} {v : V} {d : D} {t : Bool} {q : NestedKey} {xs : List DX} {ep : Nat} {a : Addr}
theorem keyX_nk (h : keyX t d = some q) : nk d = some q := by
  unfold keyX at h
  split at h
  · cases h; rfl
  · cases h; rfl
  · rename_i ds
    split at h
    · rename_i ks e
      split at h
      · cases h
        show (nkAll ds).map NestedKey.tup = _
        rw [e]; rfl
      · cases h
    · cases h
  · cases h
theorem keyX_y (h : keyX t d = some q) (dv : Dv H v d) : YH H t q v := by
  refine ⟨?_, d, dv, keyX_nk h⟩
  unfold keyX at h
  split at h
  · cases h; cases dv; exact .inl ⟨_, rfl, rfl⟩
  · cases h; cases dv; exact .inr ⟨_, rfl, rfl⟩
  · rename_i ds
    split at h
    · rename_i ks e
      split at h
      · rename_i le
        cases h
        obtain ⟨b, _, rfl, _⟩ := dv.tupE
        exact ⟨⟨_, rfl⟩, le, b, rfl⟩
      · cases h
    · cases h
  · cases h
/-- entries and their data -/
abbrev EX1 (F : Hp) (x : DX) (kd : D × D) : Prop := Dv F x.2.1 kd.1 ∧ nk kd.1 = some x.1 ∧ Dv F x.2.2 kd.2
theorem ex_of : ∀ {xs : List DX} {ks ds : List D}, DvAll F (xs.map (·.2.1)) ks → nkAll ks = some (xs.map (·.1)) → DvAll F (xs.map (·.2.2)) ds → Paired (EX1 F) xs (ks.zip ds)
  | [], ks, ds, h1, _, h3 => by cases h1; cases h3; exact .nil
  | x :: xs, _, _, h1, n, h3 => by
    rw [List.map_cons] at h1 h3
    cases h1 with | cons a1 a2 => ?_
    cases h3 with | cons b1 b2 => ?_
    simp only [nkAll, List.map_cons] at n
    split at n
    · rename_i k' ks' e1 e2
      injection n with n
      injection n with n1 n2
      exact .cons ⟨a1, by rw [e1, n1], b1⟩ (ex_of a2 (by rw [e2, n2]) b2)
    · cases n
theorem ex_to : ∀ {xs : List DX} {kds : List (D × D)}, Paired (EX1 F) xs kds → DvAll F (xs.map (·.2.1)) (kds.map (·.1)) ∧ nkAll (kds.map (·.1)) = some (xs.map (·.1)) ∧ DvAll F (xs.map (·.2.2)) (kds.map (·.2))
  | _, _, .nil => ⟨.nil, rfl, .nil⟩
  | _, _, .cons h t => by
    obtain ⟨a, b, c⟩ := ex_to t
    refine ⟨.cons h.1 a, ?_, .cons h.2.2 c⟩
    rw [List.map_cons, List.map_cons, nkAll, h.2.1, b]
theorem zip_self {α β : Type} : ∀ (l : List (α × β)), (l.map (·.1)).zip (l.map (·.2)) = l
  | [] => rfl
  | x :: l => by rw [List.map_cons, List.map_cons, List.zip_cons_cons, zip_self l]
theorem ex_kd {kds : List (D × D)} (h1 : DvAll F (xs.map (·.2.1)) (kds.map (·.1))) (n : nkAll (kds.map (·.1)) = some (xs.map (·.1))) (h3 : DvAll F (xs.map (·.2.2)) (kds.map (·.2))) : Paired (EX1 F) xs kds := by
  have := ex_of h1 n h3
  rwa [zip_self] at this
theorem look_ok : ∀ {xs : List DX} {ks ds : List D}, Paired (EX1 F) xs (ks.zip ds) → ks.length = ds.length → match dlook ks ds q with
    | some d => ∃ v, valX xs q = some v ∧ Dv F v d
    | none => valX xs q = none
  | _, [], [], .nil, _ => rfl
  | _, [], _ :: _, _, e => by simp at e
  | _, _ :: _, [], _, e => by simp at e
  | _, k :: ks, d :: ds, .cons (a := x) h r, e => by
    have ih := look_ok (show Paired (EX1 F) _ (ks.zip ds) from r) (by simpa using e)
    unfold dlook
    by_cases z : x.1 = q
    · have e1 : nk k = some q := by rw [h.2.1, z]
      rw [if_pos e1, valX_pos z]
      exact ⟨_, rfl, h.2.2⟩
    · have e1 : ¬ nk k = some q := fun y => z (by rw [h.2.1] at y; exact Option.some.inj y)
      rw [if_neg e1, valX_neg z]
      exact ih
theorem any_ok : ∀ {xs : List DX} {kds : List (D × D)}, Paired (EX1 F) xs kds → (xs.any fun x => decide (x.1 = q)) = kds.any fun kv => decide (nk kv.1 = some q)
  | _, _, .nil => rfl
  | _, _, .cons (a := x) (b := kd) h r => by
    rw [List.any_cons, List.any_cons, any_ok r]
    congr 1
    refine decide_eq_decide.mpr ⟨fun z => by rw [h.2.1, z], fun z => ?_⟩
    have := h.2.1
    rw [z] at this
    exact (Option.some.inj this).symm
theorem put_ok2 {kds : List (D × D)} {kd d : D} {y v : V} (h : Paired (EX1 F) xs kds) (hy : Dv F y kd) (hq : nk kd = some q) (hv : Dv F v d) : Paired (EX1 F) (putX xs q y v) (putD kds q kd d) := by
  unfold putX putD
  rw [any_ok h]
  have mp : Paired (EX1 F) (xs.map fun x => if x.1 = q then (x.1, x.2.1, v) else x) (kds.map fun kv => if nk kv.1 = some q then (kv.1, d) else kv) := by
    induction h with
    | nil => exact .nil
    | @cons x kv xs kds h r ih =>
      refine .cons ?_ ih
      dsimp only
      by_cases z : x.1 = q
      · rw [if_pos z, if_pos (show nk kv.1 = some q by rw [h.2.1, z])]; exact ⟨h.1, h.2.1, hv⟩
      · rw [if_neg z, if_neg (fun y => z (by rw [h.2.1] at y; exact Option.some.inj y))]; exact h
  split
  · exact mp
  · exact Paired.app h (.cons ⟨hy, hq, hv⟩ .nil)
theorem KH.of {ks : List D} (h1 : DvAll F (xs.map (·.2.1)) ks) (n : nkAll ks = some (xs.map (·.1))) (sm : Same F H) : KH H xs := ⟨ks, h1.mono sm, n⟩
/-! ### get, in, put -/
def withX (s : AS) (rk rd : R) (k : NestedKey → List D → List D → Prop) : Prop := pk s rk fun kd => pk s rd fun dd => match dd with
  | .dit t ks ds => match keyX t kd with
    | some q => k q ks ds
    | none => False
  | _ => False
theorem withX_ok {rk rd : R} {vk vd : V} {k : NestedKey → List D → List D → Prop} (X : Rel B F al s σ H) (hk : RV F al s.st.length σ rk vk) (hd : RV F al s.st.length σ rd vd) (h : withX s rk rd k) :
    ∃ t q ep a xs ks ds, AtX H vd t ep a xs ∧ YH H t q vk ∧ Paired (EX1 F) xs (ks.zip ds) ∧ ks.length = ds.length ∧ k q ks ds := by
  unfold withX at h
  obtain ⟨kd, e1, h⟩ := pk_ok h
  obtain ⟨dd, e2, h⟩ := pk_ok h
  have t1 := X.peek hk e1
  have t2 := X.peek hd e2
  split at h
  · rename_i t ks ds
    split at h
    · rename_i q eq
      obtain ⟨a, ep, xs, rfl, ea, h1, n, h2⟩ := t2
      exact ⟨t, q, ep, a, xs, ks, ds, ⟨rfl, ea, .of h1 n X.sm⟩, keyX_y eq (t1.dv X.sm), ex_of h1 n h2, by rw [← h1.length, ← h2.length, List.length_map, List.length_map], h⟩
    · exact h.elim
  · exact h.elim
def aXGet (d k : AE) : AE := fun s A => d s fun rd s1 => k s1 fun rk s2 => withX s2 rk rd fun q ks ds => match dlook ks ds q with
  | some x => A (.w (.d x)) s2
  | none => False
theorem RE.xget {td ty : TE} {d k : AE} (hd : RE Z td d) (hk : RE Z ty k) : RE Z (tXGet td ty) (aXGet d k) := fun B hB F al s σ H Q A X h q => by
  refine hd B hB F al s σ H _ _ X h ?_
  intro rd s1 F1 al1 H1 v1 x1 X1 rv1 h1
  refine hk B hB F1 al1 s1 σ H1 _ _ X1 h1 ?_
  intro rk s2 F2 al2 H2 v2 x2 X2 rv2 h2
  obtain ⟨t, q', ep, a, xs, ks, ds, hx, hy, pr, hl, h3⟩ := withX_ok X2 rv2 (rv1.ext x2) h2
  have := look_ok (q := q') pr hl
  split at h3
  · rename_i x e
    rw [e] at this
    obtain ⟨v, e1, e2⟩ := this
    exact ⟨t, ep, a, xs, q', v, hx, hy, e1, q (.w (.d x)) s2 F2 al2 H2 v (x1.trans x2) X2 e2 h3⟩
  · exact h3.elim
def aXIn (neg : Bool) (k d : AE) : AE := fun s A => k s fun rk s1 => d s1 fun rd s2 => withX s2 rk rd fun q ks ds => A (.w (.d (.bl (if neg then !(dlook ks ds q).isSome else (dlook ks ds q).isSome)))) s2
theorem look_some {ks ds : List D} (pr : Paired (EX1 F) xs (ks.zip ds)) (hl : ks.length = ds.length) : (valX xs q).isSome = (dlook ks ds q).isSome := by
  have := look_ok (q := q) pr hl
  cases z : dlook ks ds q with
  | none => rw [z] at this; rw [this]; rfl
  | some d => rw [z] at this; obtain ⟨v, e, _⟩ := this; rw [e]; rfl
theorem RE.xin {neg : Bool} {ty td : TE} {k d : AE} (hk : RE Z ty k) (hd : RE Z td d) : RE Z (tXIn neg ty td) (aXIn neg k d) := fun B hB F al s σ H Q A X h q => by
  refine hk B hB F al s σ H _ _ X h ?_
  intro rk s1 F1 al1 H1 v1 x1 X1 rv1 h1
  refine hd B hB F1 al1 s1 σ H1 _ _ X1 h1 ?_
  intro rd s2 F2 al2 H2 v2 x2 X2 rv2 h2
  obtain ⟨t, q', ep, a, xs, ks, ds, hx, hy, pr, hl, h3⟩ := withX_ok X2 (rv1.ext x2) rv2 h2
  refine ⟨t, ep, a, xs, q', hx, hy, ?_⟩
  rw [look_some pr hl]
  exact q (.w (.d (.bl _))) s2 F2 al2 H2 _ (x1.trans x2) X2 (Dv.bl _) h3
def aXGet1 (d k : AE) : AE := fun s A => d s fun rd s1 => (∃ t ks ds, peek s1 rd = some (.dit t ks ds)) ∧ k s1 fun rk s2 => withX s2 rk rd fun q ks ds => A (.w (.d ((dlook ks ds q).getD .non))) s2
theorem RE.xget1 {td ty : TE} {d k : AE} (hd : RE Z td d) (hk : RE Z ty k) : RE Z (tXGet1 td ty) (aXGet1 d k) := fun B hB F al s σ H Q A X h q => by
  refine hd B hB F al s σ H _ _ X h ?_
  intro rd s1 F1 al1 H1 v1 x1 X1 rv1 h1
  obtain ⟨⟨t0, ks0, ds0, e0⟩, h1⟩ := h1
  obtain ⟨a0, ep0, xs0, rfl, ea0, _⟩ := X1.peek rv1 e0
  refine ⟨⟨t0, ep0, a0, xs0, rfl, ea0⟩, ?_⟩
  refine hk B hB F1 al1 s1 σ H1 _ _ X1 h1 ?_
  intro rk s2 F2 al2 H2 v2 x2 X2 rv2 h2
  obtain ⟨t, q', ep, a, xs, ks, ds, hx, hy, pr, hl, h3⟩ := withX_ok X2 rv2 (rv1.ext x2) h2
  refine ⟨t, ep, a, xs, q', hx, hy, ?_⟩
  have := look_ok (q := q') pr hl
  refine q (.w (.d ((dlook ks ds q').getD .non))) s2 F2 al2 H2 _ (x1.trans x2) X2 ?_ h3
  cases z : dlook ks ds q' with
  | none => rw [z] at this; rw [this]; exact Dv.non
  | some d => rw [z] at this; obtain ⟨v, e, dv⟩ := this; rw [e]; exact dv
def aXNew (t : Bool) : AN := fun s A => A (.new (.dit t [])) s
theorem RN.xnew {t : Bool} : RN Z (tXNew t) (aXNew t) := fun B hB F al s σ H Q A X h q => fun p ep np =>
  q (.new (.dit t [])) s F al _ _ Ext.refl (X.new np) ((X.apart np).nve ⟨X.sm.free np, _, upd_same, .dit (ep := ep) (xs := []) .nil rfl .nil⟩) h
/-- d[k] = v -/
def aXPut (d k e : AE) : ASt := fun N s => e s fun r s1 => toW r s1 fun w s2 => d s2 fun rd s3 => k s3 fun r4 s4 => toW r4 s4 fun wk s5 => match getC s5 rd, wk, w with
  | some (.dit t kds), .d kd, .d x => match keyX t kd with
    | some q => kds.length < sizeLine ∧ N.nx (putC s5 rd (.dit t (putD kds q kd x)))
    | none => False
  | _, _, _ => False
theorem RS.xput {td ty tv : TE} {d k e : AE} (hd : RE Z td d) (hk : RE Z ty k) (he : RE Z tv e) : RS Z (sXPut td ty tv) (aXPut d k e) := fun B hB D A rd F al s σ H X h => by
  refine he B hB F al s σ H _ _ X h ?_
  intro r s1 F1 al1 H1 v1 x1 X1 rv1 h1
  obtain ⟨F2, al2, w, s2, x2, X2, wv, h2⟩ := toW_ok X1 rv1 h1
  refine hd B hB F2 al2 s2 σ H1 _ _ X2 h2 ?_
  intro rdd s3 F3 al3 H3 v3 x3 X3 rv3 h3
  refine hk B hB F3 al3 s3 σ H3 _ _ X3 h3 ?_
  intro rk s4 F4 al4 H4 v4 x4 X4 rv4 h4
  obtain ⟨F5, al5, wk, s5, x5, X5, wkv, h5⟩ := toW_ok X4 rv4 h4
  split at h5
  · rename_i t kds kd x eg
    split at h5
    · rename_i q eq
      have dvx : Dv F5 v1 x := ((wv.ext x3).ext x4).ext x5
      have dvk : Dv F5 v4 kd := wkv
      obtain ⟨a, o, rfl, ho, hc, pt⟩ := X5.getC ((rv3.ext x4).ext x5) eg
      cases hc with | dit c1 n c2 => ?_
      rename_i ep xs
      have pr := ex_kd c1 n c2
      have yh : YH H4 t q v4 := keyX_y eq (dvk.mono X5.sm)
      refine ⟨t, ep, a, xs, q, ⟨rfl, ho, .of c1 n X5.sm⟩, yh, by rw [Paired.len pr]; exact h5.1, fun ep' => ?_⟩
      obtain ⟨b1, b2, b3⟩ := ex_to (put_ok2 pr dvk (keyX_nk eq) dvx)
      obtain ⟨X6, _⟩ := pt _ _ (.dit (ep := ep') b1 b2 b3)
      exact rd.nx F5 al5 _ _ _ X6 h5.2
    · exact h5.elim
  · exact h5.elim
/-- d.setdefault(k, v) -/
def aXSetd (d k e : AE) : AE := fun s A => d s fun rd s1 => (∃ t kds, getC s1 rd = some (.dit t kds)) ∧ k s1 fun r2 s2 => toW r2 s2 fun wk s3 => e s3 fun r4 s4 => toW r4 s4 fun w s5 => match getC s5 rd, wk, w with
  | some (.dit t kds), .d kd, .d x => match keyX t kd with
    | some q => kds.length < sizeLine ∧ match dlook (kds.map (·.1)) (kds.map (·.2)) q with
      | some y => A (.w (.d y)) s5
      | none => A (.w (.d x)) (putC s5 rd (.dit t (putD kds q kd x)))
    | none => False
  | _, _, _ => False
theorem RE.xsetd {td ty tv : TE} {d k e : AE} (hd : RE Z td d) (hk : RE Z ty k) (he : RE Z tv e) : RE Z (tXSetd td ty tv) (aXSetd d k e) := fun B hB F al s σ H Q A X h q => by
  refine hd B hB F al s σ H _ _ X h ?_
  intro rd s1 F1 al1 H1 v1 x1 X1 rv1 h1
  obtain ⟨⟨t0, kds0, e0⟩, h1⟩ := h1
  obtain ⟨a0, o0, ev0, ho0, hc0, _⟩ := X1.getC rv1 e0
  cases hc0 with | dit c1 n c2 => ?_
  rename_i ep0 xs0
  refine ⟨⟨t0, ep0, a0, xs0, ev0, ho0⟩, ?_⟩
  refine hk B hB F1 al1 s1 σ H1 _ _ X1 h1 ?_
  intro rk s2 F2 al2 H2 v2 x2 X2 rv2 h2
  obtain ⟨F3, al3, wk, s3, x3, X3, wkv, h3⟩ := toW_ok X2 rv2 h2
  refine he B hB F3 al3 s3 σ H2 _ _ X3 h3 ?_
  intro r4 s4 F4 al4 H4 v4 x4 X4 rv4 h4
  obtain ⟨F5, al5, w, s5, x5, X5, wv, h5⟩ := toW_ok X4 rv4 h4
  have xx : Ext F F5 al al5 s.st.length s5.st.length := (((x1.trans x2).trans x3).trans x4).trans x5
  split at h5
  · rename_i t kds kd x eg
    split at h5
    · rename_i q' eq
      have dvx : Dv F5 v4 x := wv
      have dvk : Dv F5 v2 kd := (wkv.ext x4).ext x5
      obtain ⟨a, o, ev, ho, hc, pt⟩ := X5.getC ((((rv1.ext x2).ext x3).ext x4).ext x5) eg
      cases hc with | dit c1 n c2 => ?_
      rename_i ep xs
      have pr := ex_kd c1 n c2
      have yh : YH H4 t q' v2 := keyX_y eq (dvk.mono X5.sm)
      have pz := pr
      rw [← zip_self kds] at pz
      have lk := look_ok (q := q') pz (by rw [List.length_map, List.length_map])
      refine ⟨t, ep, a, xs, q', ⟨ev, ho, .of c1 n X5.sm⟩, yh, by rw [Paired.len pr]; exact h5.1, fun z hz => ?_, fun hz ep' => ?_⟩
      · have h6 := h5.2
        split at h6
        · rename_i y ey
          rw [ey] at lk
          obtain ⟨z', e1, e2⟩ := lk
          rw [e1] at hz
          cases hz
          exact q (.w (.d y)) s5 F5 al5 H4 z xx X5 e2 h6
        · rename_i ey
          rw [ey] at lk
          rw [lk] at hz; cases hz
      · have h6 := h5.2
        split at h6
        · rename_i y ey
          rw [ey] at lk
          obtain ⟨z', e1, e2⟩ := lk
          rw [e1] at hz; cases hz
        · obtain ⟨b1, b2, b3⟩ := ex_to (put_ok2 pr dvk (keyX_nk eq) dvx)
          obtain ⟨X6, e6⟩ := pt _ _ (.dit (ep := ep') b1 b2 b3)
          exact q (.w (.d x)) _ F5 al5 _ v4 (by rw [e6]; exact xx) X6 (show RV F5 al5 (putC s5 rd (.dit t (putD kds q' kd x))).st.length σ (.w (.d x)) v4 from dvx) h6
    · exact h5.elim
  · exact h5.elim
/-! ### len, sorted, walks -/
def bXLen : List D → (D → Prop) → Prop := fun ds A => match ds with
  | [.dit _ ks _] => A (.int ks.length)
  | _ => False
theorem bXLen_ok : OB rXLen bXLen := fun F H vs ds Q A sm tv h q => by
  unfold bXLen at h
  split at h
  · rename_i t ks es
    cases tv with | cons t1 tt => ?_
    cases tt
    obtain ⟨a, ep, xs, rfl, ea, h1, n, h2⟩ := t1
    refine ⟨_, t, ep, a, xs, rfl, ⟨rfl, ea, .of h1 n sm⟩, ?_⟩
    have : ks.length = xs.length := by rw [← h1.length, List.length_map]
    rw [← this]
    exact q _ _ (.int _) h
  · exact h.elim
def bXSort : List D → (List D → Prop) → Prop := fun ds A => match ds with
  | [.dit _ ks _] => PyData.plainAll (pyAll ks) = true ∧ PySem.W.AllAlike (ks.map py) ∧ PySem.W.Sortable (ks.map py) ∧ (∀ x ∈ ks, (py x).depth ≤ 60) ∧ A (Zi.sortD ks)
  | _ => False
theorem dp_pairs : ∀ {vs : List V} {ks : List D}, DvAll F vs ks → PyData.plainAll (pyAll ks) = true → (∀ b ∈ vs.zip (ks.map py), Dp K F b.1 b.2)
  | _, _, .nil, _, b, hb => by cases hb
  | _, _, .cons h t, p, b, hb => by
    simp only [pyAll, PyData.plainAll, Bool.and_eq_true] at p
    rw [List.map_cons, List.zip_cons_cons] at hb
    rcases List.mem_cons.mp hb with rfl | hb
    · exact (h.dq p.1).dp p.1
    · exact dp_pairs t p.2 b hb
theorem sort_zip {vs : List V} {ks : List D} (h : DvAll F vs ks) : ∃ us, ((vs.zip ks).mergeSort (PySem.W.dataLe false fun b => py b.2)).map (·.1) = us ∧ DvAll F us (Zi.sortD ks) := by
  refine ⟨_, rfl, ?_⟩
  have go : ∀ (l : List (V × D)), (∀ b ∈ l, Dv F b.1 b.2) → DvAll F (l.map (·.1)) (l.map (·.2)) := by
    intro l
    induction l with
    | nil => intro _; exact .nil
    | cons b l ih => intro hl; exact .cons (hl b List.mem_cons_self) (ih fun b hb => hl b (List.mem_cons_of_mem _ hb))
  have all : ∀ {vs : List V} {ks : List D}, DvAll F vs ks → ∀ b ∈ vs.zip ks, Dv F b.1 b.2 := by
    intro vs ks h
    induction vs generalizing ks with
    | nil => intro b hb; simp at hb
    | cons v vs ih =>
      cases h with | cons h1 h2 => ?_
      intro b hb
      rw [List.zip_cons_cons] at hb
      rcases List.mem_cons.mp hb with rfl | hb
      · exact h1
      · exact ih h2 b hb
  have e2 : (vs.zip ks).map (·.2) = ks := by
    have hl := h.length
    rw [List.map_snd_zip]
    omega
  have key := List.map_mergeSort (f := fun b : V × D => b.2) (r := PySem.W.dataLe false fun b : V × D => py b.2) (s := PySem.W.dataLe false py) (l := vs.zip ks) (fun a _ b _ => rfl)
  rw [e2] at key
  show DvAll F _ (ks.mergeSort (PySem.W.dataLe false py))
  rw [← key]
  exact go _ fun b hb => all h b ((List.mergeSort_perm _ _).mem_iff.mp hb)
theorem bXSort_ok : OBL (rXSort K) bXSort := fun F H vs ds Q A sm tv h q => by
  unfold bXSort at h
  split at h
  · rename_i t ks es
    cases tv with | cons t1 tt => ?_
    cases tt
    obtain ⟨a, ep, xs, rfl, ea, h1, n, h2⟩ := t1
    obtain ⟨p1, p2, p3, p4, p5⟩ := h
    have hl := h1.length
    have em : ((xs.map (·.2.1)).zip (ks.map py)).map Zs.encB = ks.map py := by
      show ((xs.map (·.2.1)).zip (ks.map py)).map (fun b => b.2) = _
      rw [List.map_snd_zip]
      rw [List.length_map (as := ks) py]; omega
    refine ⟨t, ep, a, xs, (xs.map (·.2.1)).zip (ks.map py), rfl, ea, ?_, fun b hb => ?_, by rw [em]; exact p2, by rw [em]; exact p3, fun b hb => ?_, fun p np => ?_⟩
    · rw [List.map_fst_zip]
      rw [List.length_map (as := ks) py]; omega
    · exact dp_pairs (h1.mono sm) p1 b hb
    · obtain ⟨x, hx, e⟩ := List.mem_map.mp (List.of_mem_zip hb).2
      rw [← e]; exact p4 x hx
    · obtain ⟨us, e1, e2⟩ := sort_zip h1
      have e3 : (((xs.map (·.2.1)).zip (ks.map py)).mergeSort (PySem.W.dataLe false Zs.encB)).map (·.1) = us := by
        rw [← e1]
        have key := List.map_mergeSort (f := fun b : V × D => (b.1, py b.2)) (r := PySem.W.dataLe false fun b : V × D => py b.2) (s := PySem.W.dataLe false Zs.encB) (l := (xs.map (·.2.1)).zip ks) (fun a _ b _ => rfl)
        have ez : ((xs.map (·.2.1)).zip ks).map (fun b : V × D => (b.1, py b.2)) = (xs.map (·.2.1)).zip (ks.map py) := by
          rw [List.zip_map_right]; rfl
        rw [ez] at key
        rw [← key, List.map_map]; rfl
      rw [e3]
      exact q _ p us np e2 p5
  · exact h.elim
def aIXK (a : AE) : AI := fun s A => a s fun r s1 => toW r s1 fun w s2 => match w with
  | .d (.dit _ ks _) => A ks s2
  | _ => False
theorem RI.xkeys {te : TE} {a : AE} (ha : RE Z te a) : RI Z (iXKeys te) (aIXK a) := fun B hB F al s σ H R A X h q => by
  refine ha B hB F al s σ H _ _ X h ?_
  intro r s1 F1 al1 H1 v1 x1 X1 rv1 h1
  obtain ⟨F2, al2, w, s2, x2, X2, wv, h2⟩ := toW_ok X1 rv1 h1
  split at h2
  · rename_i t ks ds
    have dv : Dv F2 v1 (.dit t ks ds) := wv
    cases dv with | dit ea h3 n h4 => ?_
    rename_i ep a xs
    have hl : ks.length = xs.length := by rw [← h3.length, List.length_map]
    refine ⟨t, ep, a, xs, rfl, X2.sm _ _ ea, q ks s2 F2 al2 H1 (Itx t ep a xs) (fun H => H a = some (ditO t ep a xs)) (fun i H x H' => H' = H ∧ ∃ e, xs[i]? = some e ∧ x = e.2.1) (x1.trans x2) X2 ?_ (fun H2 sm => sm _ _ ea) (fun i H1 x H2 hi sm y => ?_) h2⟩
    · rw [hl]
      exact ⟨fun i H hi e => ⟨e, hi⟩, fun H e => ⟨e, Nat.le_refl _⟩, fun i H x H' hi e y => y⟩
    · obtain ⟨rfl, e, e1, rfl⟩ := y
      refine .inl ⟨rfl, ?_⟩
      exact h3.getV (by rw [List.getElem?_map, e1]; rfl)
  · exact h2.elim
def pairsD : List D → List D → List D
  | k :: ks, d :: ds => .tup [k, d] :: pairsD ks ds
  | _, _ => []
theorem pairsD_zip : ∀ (ks ds : List D), pairsD ks ds = (ks.zip ds).map fun kd => .tup [kd.1, kd.2]
  | [], _ => by unfold pairsD; simp
  | _ :: _, [] => by unfold pairsD; simp
  | k :: ks, d :: ds => by unfold pairsD; rw [List.zip_cons_cons, List.map_cons, pairsD_zip ks ds]
def aIXI (a : AE) : AI := fun s A => a s fun r s1 => toW r s1 fun w s2 => match w with
  | .d (.dit _ ks ds) => A (pairsD ks ds) s2
  | _ => False
theorem RI.xitems {te : TE} {a : AE} (ha : RE Z te a) : RI Z (iXItems te) (aIXI a) := fun B hB F al s σ H R A X h q => by
  refine ha B hB F al s σ H _ _ X h ?_
  intro r s1 F1 al1 H1 v1 x1 X1 rv1 h1
  obtain ⟨F2, al2, w, s2, x2, X2, wv, h2⟩ := toW_ok X1 rv1 h1
  split at h2
  · rename_i t ks ds
    have dv : Dv F2 v1 (.dit t ks ds) := wv
    cases dv with | dit ea h3 n h4 => ?_
    rename_i ep a xs
    have pr := ex_of h3 n h4
    have hl : (pairsD ks ds).length = xs.length := by rw [pairsD_zip, List.length_map, ← Paired.len pr]
    refine ⟨t, ep, a, xs, rfl, X2.sm _ _ ea, q _ s2 F2 al2 H1 (Itxi t ep a xs) (fun H => H a = some (ditO t ep a xs)) (fun i H x H' => ∃ T e, xs[i]? = some e ∧ x = .ref T ∧ H T = none ∧ H' = upd H T (.tup [e.2.1, e.2.2])) (x1.trans x2) X2 ?_ (fun H2 sm => sm _ _ ea) (fun i H1 x H2 hi sm y => ?_) h2⟩
    · rw [hl]
      exact ⟨fun i H hi e => ⟨e, hi⟩, fun H e => ⟨e, Nat.le_refl _⟩, fun i H x H' hi e y => y⟩
    · obtain ⟨T, e, e1, rfl, nT, rfl⟩ := y
      obtain ⟨kd, e2, d1, _, d2⟩ := paired_at pr i e e1
      refine .inr ⟨T, _, _, rfl, nT, rfl, ?_, .cons d1 (.cons d2 .nil)⟩
      rw [pairsD_zip, List.getElem?_map, e2]; rfl
  · exact h2.elim
end
end Zi

set_option Elab.async false
set_option linter.all false
set_option maxRecDepth 100000
set_option maxHeartbeats 1000000
/-! Zo: comprehensions into any new object; dict comprehensions; sets of tuples made and counted; dict(pairs). -/
namespace Zi
open PySem PySem.Spec PyProof.Rows L2 Ly Lc Zs
variable [Zi.Wd]
section
variable {Z : EX} {K : PySem.W.Frag} {P : Program} {w : World} {B : Bs} {F F' H H' : Hp} {al al' : Nat → Addr} {s s' : AS} {σ σ' : L2.St} {Dl : Addr} {α : Type}
/-- what stands for an accumulator at an address -/
abbrev OA (α : Type) := Hp → Addr → α → HO → Prop
def OMono (O : OA α) : Prop := ∀ F F' p a o, Same F F' → O F p a o → O F' p a o
abbrev ACg (α : Type) := AS → α → (AS → α → Prop) → Prop
def RCg (Z : EX) (O : OA α) (t : Addr → TCl) (a : ACg α) : Prop := ∀ B, Okx B Z → ∀ F al s σ H Dl acc o (Nx : Hp → Prop) k, Rel B F al s σ H → Apart B F al s σ Dl → H Dl = some o → O F Dl acc o → a s acc k →
  (∀ F' al' s' H' acc' o', Ext F F' al al' s.st.length s'.st.length → Rel B F' al' s' σ H' → Apart B F' al' s' σ Dl → H' Dl = some o' → O F' Dl acc' o' → k s' acc' → Nx H') → t Dl σ H Nx
def cgGo (t : Tgt) (c : AT) (inner : ACg α) (vs : List Nat) (k : AS → α → Prop) : List D → AS → α → Prop
  | [], s, acc => k s acc
  | d :: ds, s, acc => match bindT t d s.env with
    | some env' => c ⟨env', s.st⟩ fun b s1 => if b = true then inner s1 acc fun s2 acc' => cgGo t c inner vs k ds ⟨wipeE s2.env vs, s2.st⟩ acc' else cgGo t c inner vs k ds ⟨wipeE s1.env vs, s1.st⟩ acc
    | none => False
def cgG (t : Tgt) (c : AT) (inner : ACg α) (vs : List Nat) (k : AS → α → Prop) (ds : List D) (s : AS) (acc : α) (_ : Tag k) : Prop := cgGo t c inner vs k ds s acc
theorem cg_loop {O : OA α} (mo : OMono O) {g : TG} {t : Tgt} {tt : TT} {c : AT} {tc : Addr → TCl} {inner : ACg α} {vs : List Nat} (hg : RG g t) (hc : RT Z tt c) (hin : RCg Z O tc inner) (hv : ∀ j ∈ slots t, j ∈ vs)
    {B : Bs} (hB : Okx B Z) {F1 : Hp} {al1 : Nat → Addr} {s1 : AS} {H1 : Hp} {acc0 : α} {o0 : HO} {ds : List D} {k : AS → α → Prop} {J : It} {G : Hp → Prop} {Y : Nat → Hp → V → Hp → Prop}
    (X1 : Rel B F1 al1 s1 (L2.wipe σ vs) H1) (A1 : Apart B F1 al1 s1 (L2.wipe σ vs) Dl) (eD : H1 Dl = some o0) (oa : O F1 Dl acc0 o0) (wk : Walk J ds.length G Y) (hG : ∀ H2, Same F1 H2 → G H2) (hY : ∀ i H1 x H2, i < ds.length → Same F1 H1 → Y i H1 x H2 → YOk F1 H1 ds i x H2)
    (h1 : cgGo t c inner vs k ds s1 acc0) {Qd : Hp → Prop} (hd : ∀ F' al' s' H' acc' o', Ext F1 F' al1 al' s1.st.length s'.st.length → Rel B F' al' s' (L2.wipe σ vs) H' → Apart B F' al' s' (L2.wipe σ vs) Dl → H' Dl = some o' → O F' Dl acc' o' → k s' acc' → Qd H') :
    ∃ W : Nat → Nat → Hp → Prop, (∃ m, W 0 m H1) ∧ ∀ i m H, W i m H →
      (J.stop i H ∧ Qd H) ∨ (J.go i H ∧ ∃ Nx : Hp → Prop, (∀ H', Nx H' → ∃ m', m' < m ∧ W (i + 1) m' H') ∧ ∀ x H', J.yld i H x H' → g x (L2.wipe σ vs) H' fun σ2 H2 => L2.wipe σ2 vs = L2.wipe σ vs ∧ tt σ2 H2 fun b H3 => if b = true then tc Dl σ2 H3 Nx else Nx H3) := by
  have hB1 := hB.re X1.ex
  have X1' := X1.re
  have un : ∀ {F' al' s' σ' H'}, Rel (B.re F1 al1 s1.st.length) F' al' s' σ' H' → Rel B F' al' s' σ' H' := fun X' => X'.un X1.ex
  have A1' : Apart (B.re F1 al1 s1.st.length) F1 al1 s1 (L2.wipe σ vs) Dl := ⟨A1.g, A1.f, A1.a, A1.e⟩
  have unA : ∀ {F' al' s' σ'}, Apart (B.re F1 al1 s1.st.length) F' al' s' σ' Dl → Apart B F' al' s' σ' Dl := fun A => ⟨A.g, A.f, A.a, A.e⟩
  generalize hB' : B.re F1 al1 s1.st.length = B1 at hB1 X1' un A1' unA
  have BF : B1.F = F1 := by rw [← hB']; rfl
  have BA : B1.al = al1 := by rw [← hB']; rfl
  have BL : B1.L = s1.st.length := by rw [← hB']; rfl
  refine cl_it wk (fun i H' => ∃ F' al' s' acc o, Rel B1 F' al' s' (L2.wipe σ vs) H' ∧ Apart B1 F' al' s' (L2.wipe σ vs) Dl ∧ H' Dl = some o ∧ O F' Dl acc o ∧ cgGo t c inner vs k (ds.drop i) s' acc) ⟨F1, al1, s1, acc0, o0, X1', A1', eD, oa, h1⟩ ?_ ?_ ?_
  · rintro i H' _ ⟨F', al', s', acc, o, X', _⟩
    exact hG H' fun a o e => X'.sm a o (X'.ex.ff a o (by rw [BF]; exact e))
  · rintro i y H' H2 N hN hlt ⟨F', al', s', acc, o, X', ap, hD, oa', h'⟩ yl
    have f1 : Same F1 F' := fun a o e => X'.ex.ff a o (by rw [BF]; exact e)
    have Xg := X'.guard ap hD
    have hBg := hB1.gd (o := o) ap.g
    obtain ⟨F2, d, x2, X2, e1, dv, k2⟩ := Xg.item (F1 := F1) f1 (hY i H' y H2 hlt (fun a o e => X'.sm a o (f1 a o e)) yl)
    have hdr : ds.drop i = d :: ds.drop (i + 1) := by
      obtain ⟨hl, e⟩ := List.getElem?_eq_some_iff.mp e1
      rw [← e]; exact List.drop_eq_getElem_cons hl
    rw [hdr] at h'
    unfold cgGo at h'
    cases z : bindT t d s'.env with
    | none => rw [z] at h'; exact h'.elim
    | some env' =>
      rw [z] at h'
      refine hg _ F2 al' s' _ H2 _ _ d env' X2 dv z fun σ3 X3 w3 => ?_
      have w3' : L2.wipe σ3 vs = L2.wipe σ vs := by rw [w3 vs hv]; exact wipe_wipe
      refine ⟨w3', ?_⟩
      refine hc _ hBg F2 al' _ σ3 H2 _ _ X3 h' ?_
      intro b s4 F4 al4 H4 x4 X4 h4
      obtain ⟨X5, hD5, ap5⟩ := X4.unguard ap.g
      have oa5 : O F4 Dl acc o := mo _ _ _ _ _ (fun a o e => x4.ff a o (x2.ff a o e)) oa'
      cases b with
      | false =>
        have X6 := X5.wipe (vs := vs)
        have A6 := ap5.wipe (vs := vs)
        rw [w3'] at X6 A6
        exact hN _ ⟨F4, al4, _, acc, o, X6, A6, hD5, oa5, h4⟩
      | true =>
        refine hin B1 hB1 F4 al4 s4 σ3 H4 Dl acc o N _ X5 ap5 hD5 oa5 h4 ?_
        intro F5 al5 s5 H5 acc' o' x5 X7 A7 hD7 oa7 h7
        have X8 := X7.wipe (vs := vs)
        have A8 := A7.wipe (vs := vs)
        rw [w3'] at X8 A8
        exact hN _ ⟨F5, al5, _, acc', o', X8, A8, hD7, oa7, h7⟩
  · rintro H' ⟨F', al', s', acc, o, X', ap, hD, oa', h'⟩
    rw [List.drop_length] at h'
    unfold cgGo at h'
    have ex1 : Ext F1 F' al1 al' s1.st.length s'.st.length := by
      have := X'.ex
      rw [BF, BA, BL] at this
      exact this
    exact hd F' al' s' H' acc o ex1 (un X') (unA ap) hD oa' h'
def aCg (ai : AI) (t : Tgt) (c : AT) (inner : ACg α) (vs : List Nat) : ACg α := fun s acc k => ai s fun ds s1 => cgG t c inner vs k ds ⟨wipeE s1.env vs, s1.st⟩ acc ⟨⟩
theorem RCg.cl {O : OA α} (mo : OMono O) {ti : TI} {ai : AI} {g : TG} {t : Tgt} {tt : TT} {c : AT} {tc : Addr → TCl} {inner : ACg α} {vs : List Nat} (hi : RI Z ti ai) (hg : RG g t) (hc : RT Z tt c) (hin : RCg Z O tc inner) (hv : ∀ j ∈ slots t, j ∈ vs) :
    RCg Z O (fun D => tCl ti g tt (tc D) vs) (aCg ai t c inner vs) := fun B hB F al s σ H Dl acc o Nx k X A eD oa h q => by
  refine hi (B.gd Dl o) (hB.gd A.g) F al s σ H _ _ (X.guard A eD) h ?_
  intro ds s1 F1 al1 H1 J G Y x1 X1 wk hG hY h1
  obtain ⟨X2, eD2, A2⟩ := X1.unguard A.g
  refine cg_loop mo hg hc hin hv hB X2.wipe A2.wipe eD2 (mo _ _ _ _ _ x1.ff oa) wk hG hY h1 ?_
  intro F' al' s' H' acc' o' x' X' A' eD' oa' h'
  have sub : ∀ (j : Nat) (e : Sl), s'.env[j]? = some e → e = .no ∨ (s'.env[j]? = some e ∧ σ[j]? = (L2.wipe σ vs)[j]?) ∨ ∃ w, e = .v w ∧ ∃ v, σ[j]? = some (some v) ∧ WV F' al' s'.st.length w v := fun j e he => by
    cases e with
    | no => exact .inl rfl
    | v w =>
      obtain ⟨v, h1, h2⟩ := X'.ev j w he
      exact .inr (.inr ⟨w, rfl, v, (wipe_some h1).1, h2⟩)
    | own c =>
      obtain ⟨a, ha, _⟩ := X'.eo j c he
      have z := wipe_some ha
      exact .inr (.inl ⟨he, by rw [wipe_out z.2]⟩)
  have X3 : Rel B F' al' s' σ H' := X'.sub (by rw [← wipe_length σ vs]; exact X'.le) sub
  refine q F' al' s' H' acc' o' (x1.trans x') X3 ⟨A'.g, A'.f, A'.a, fun j c ej hj => ?_⟩ eD' oa' h'
  rcases sub j _ ej with z | ⟨z1, z2⟩ | ⟨w, z1, _⟩
  · cases z
  · exact A'.e j c ej (by rw [← z2]; exact hj)
  · cases z1
/-- the slots behind a comprehension -/
theorem back_rel {vs : List Nat} {s1 : AS} {F1 : Hp} {al1 : Nat → Addr} {H1 : Hp} (X1 : Rel B F1 al1 s1 σ H1) (x' : Ext F1 F' al1 al' s1.st.length s'.st.length) (X' : Rel B F' al' s' (L2.wipe σ vs) H') (A' : Apart B F' al' s' (L2.wipe σ vs) Dl) :
    Rel B F' al' ⟨backE s1.env s'.env vs, s'.st⟩ σ H' ∧ Apart B F' al' ⟨backE s1.env s'.env vs, s'.st⟩ σ Dl := by
  have sub : ∀ (j : Nat) (e : Sl), (backE s1.env s'.env vs)[j]? = some e → e = .no ∨ (s'.env[j]? = some e ∧ σ[j]? = (L2.wipe σ vs)[j]?) ∨ ∃ w, e = .v w ∧ ∃ v, σ[j]? = some (some v) ∧ WV F' al' s'.st.length w v := fun j e he => by
    rcases backE_get he with z | ⟨z1, z2⟩ | ⟨w, z1, z2⟩
    · exact .inl z
    · exact .inr (.inl ⟨z2, (wipe_out z1).symm⟩)
    · obtain ⟨v, h1, h2⟩ := X1.ev j w z2
      exact .inr (.inr ⟨w, z1, v, h1, h2.ext x'⟩)
  refine ⟨X'.sub (by rw [backE_len, ← wipe_length σ vs]; exact X'.le) sub, A'.g, A'.f, A'.a, fun j c ej hj => ?_⟩
  rcases sub j _ ej with z | ⟨z1, z2⟩ | ⟨w, z1, _⟩
  · cases z
  · exact A'.e j c z1 (by rw [← z2]; exact hj)
  · cases z1
/-! ### dict comprehensions -/
def OX (t : Bool) : OA (List (D × D)) := fun F p kds o => ∃ ep xs, o = ditO t ep p xs ∧ Paired (EX1 F) xs kds
theorem ox_mono {t : Bool} : OMono (OX t) := fun F F' p a o sm ⟨ep, xs, e, pr⟩ => ⟨ep, xs, e, Paired.up (fun _ _ z => ⟨z.1.mono sm, z.2.1, z.2.2.mono sm⟩) pr⟩
def aXEmit (t : Bool) (ek ev : AE) : ACg (List (D × D)) := fun s acc k => ek s fun r s1 => toW r s1 fun wk s2 => ev s2 fun r3 s3 => toW r3 s3 fun w s4 => match wk, w with
  | .d kd, .d x => match keyX t kd with
    | some q => acc.length < sizeLine ∧ k s4 (putD acc q kd x)
    | none => False
  | _, _ => False
theorem RCg.xemit {t : Bool} {tk tv : TE} {ek ev : AE} (hk : RE Z tk ek) (hv : RE Z tv ev) : RCg Z (OX t) (fun D σ H Nx => tk σ H fun x H1 => tv σ H1 fun y H2 => rXPut t D x y H2 Nx) (aXEmit t ek ev) := fun B hB F al s σ H Dl acc o Nx k X A eD oa h q => by
  obtain ⟨ep, xs, rfl, pr⟩ := oa
  refine hk (B.gd Dl (ditO t ep Dl xs)) (hB.gd A.g) F al s σ H _ _ (X.guard A eD) h ?_
  intro r s1 F1 al1 H1 v1 x1 X1 rv1 h1
  obtain ⟨F2, al2, wk, s2, x2, X2, wkv, h2⟩ := toW_ok X1 rv1 h1
  refine hv (B.gd Dl (ditO t ep Dl xs)) (hB.gd A.g) F2 al2 s2 σ H1 _ _ X2 h2 ?_
  intro r3 s3 F3 al3 H3 v3 x3 X3 rv3 h3
  obtain ⟨F4, al4, w, s4, x4, X4, wv, h4⟩ := toW_ok X3 rv3 h3
  have xx : Ext F F4 al al4 s.st.length s4.st.length := ((x1.trans x2).trans x3).trans x4
  split at h4
  · rename_i kd x
    split at h4
    · rename_i q' eq
      have dvk : Dv F4 v1 kd := (wkv.ext x3).ext x4
      have dvx : Dv F4 v3 x := wv
      obtain ⟨X5, eD5, A5⟩ := X4.unguard A.g
      have pr4 : Paired (EX1 F4) xs acc := Paired.up (fun _ _ z => ⟨z.1.mono xx.ff, z.2.1, z.2.2.mono xx.ff⟩) pr
      obtain ⟨b1, b2, b3⟩ := ex_to pr4
      refine ⟨ep, xs, q', eD5, .of b1 b2 X5.sm, keyX_y eq (dvk.mono X5.sm), by rw [Paired.len pr4]; exact h4.1, fun ep' => ?_⟩
      refine q F4 al4 s4 _ (putD acc q' kd x) _ xx (X5.other A5) A5 upd_same ⟨ep', _, rfl, put_ok2 pr4 dvk (keyX_nk eq) dvx⟩ h4.2
    · exact h4.elim
  · exact h4.elim
def aXDc (t : Bool) (ai : AI) (tg : Tgt) (c : AT) (inner : ACg (List (D × D))) (vs : List Nat) : AN := fun s A => ai s fun ds s1 => cgG tg c inner vs (fun s2 kds => A (.new (.dit t kds)) ⟨backE s1.env s2.env vs, s2.st⟩) ds ⟨wipeE s1.env vs, s1.st⟩ [] ⟨⟩
theorem RN.xdc {t : Bool} {ti : TI} {ai : AI} {g : TG} {tg : Tgt} {tt : TT} {c : AT} {tc : Addr → TCl} {inner : ACg (List (D × D))} {vs : List Nat} (hi : RI Z ti ai) (hg : RG g tg) (hc : RT Z tt c) (hin : RCg Z (OX t) tc inner) (hv : ∀ j ∈ slots tg, j ∈ vs) :
    RN Z (tComp ti g tt tc vs (fun D => ditO t 0 D [])) (aXDc t ai tg c inner vs) := fun B hB F al s σ H Q A X h q => by
  refine hi B hB F al s σ H _ _ X h ?_
  intro ds s1 F1 al1 H1 J G Y x1 X1 wk hG hY h1 Dl nD
  have A1 := X1.apart nD
  refine cg_loop ox_mono hg hc hin hv hB ((X1.other A1).wipe) A1.wipe upd_same ⟨0, [], rfl, .nil⟩ wk hG hY h1 ?_
  intro F' al' s' H' kds o' x' X' A' eD' oa' h'
  obtain ⟨ep, xs, rfl, pr⟩ := oa'
  obtain ⟨X3, A3⟩ := back_rel X1 x' X' A'
  obtain ⟨b1, b2, b3⟩ := ex_to pr
  exact q (.new (.dit t kds)) ⟨backE s1.env s'.env vs, s'.st⟩ F' al' H' _ (x1.trans x') X3 (A3.nve ⟨A3.f, _, eD', .dit b1 b2 b3⟩) h'
/-! ### sets of tuples -/
def setNO (L : List Zt.EN) (a : Addr) : HO := .ext fun h => ∃ es ep t, Zt.SetN h a L es ep t
def ON : OA (List D) := fun F p ks o => ∃ L ks0, o = setNO L p ∧ ks0.Perm ks ∧ DvAll F (L.map fun e => V.ref e.2) ks0 ∧ nkAll ks0 = some (L.map (·.1)) ∧ ∀ e ∈ L, e.1.depth ≤ 8
theorem on_mono : OMono ON := fun F F' p a o sm ⟨L, ks0, e, pm, d, n, dp⟩ => ⟨L, ks0, e, pm, d.mono sm, n, dp⟩
theorem setN_keep {h h' : Heap} {L : List Zt.EN} {a : Addr} (R : ∃ es ep t, Zt.SetN h a L es ep t) (k : ∀ o, h.get? a = some o → h'.get? a = some o) : ∃ es ep t, Zt.SetN h' a L es ep t := by
  obtain ⟨es, ep, t, ⟨o, ho, r⟩, r1, r2, r3, r4, r5, r6⟩ := R
  exact ⟨es, ep, t, ⟨o, k o ho, r⟩, r1, r2, r3, r4, r5, r6⟩
theorem setN_ok {h : Heap} {L : List Zt.EN} {a : Addr} (R : ∃ es ep t, Zt.SetN h a L es ep t) : ObjOk P w H h a (setNO L a) := by
  obtain ⟨_, _, _, ⟨o, ho, _⟩, _⟩ := id R
  exact ⟨R, ⟨o, ho⟩, fun h1 h2 p k => setN_keep p k⟩
theorem setN_new (h : Heap) : ∃ es ep t, Zt.SetN (h.push { cls := .type "set", dict := none, data := .set #[] 0 (.fresh 0 0 (!Wd.w.params.followText "set-order")) }) h.objs.size [] es ep t := by
  refine ⟨#[], 0, _, ⟨_, Heap.get?_push_size _ rfl, ⟨rfl, rfl, rfl⟩, rfl⟩, rfl, ⟨List.Pairwise.nil, rfl, rfl, .inl rfl, fun x hx => (nomatch hx), fun i h j e => by simp at e⟩, List.nodup_nil, ?_, (show 0 * 5 < 7 * 3 by decide), by decide⟩
  show _ ∨ (!Wd.w.params.followText "set-order") = true
  cases z : Wd.w.params.followText "set-order" with
  | false => exact .inr rfl
  | true => exact .inl rfl
def KHN (H : Hp) (L : List Zt.EN) : Prop := (∃ ks, DvAll H (L.map fun e => V.ref e.2) ks ∧ nkAll ks = some (L.map (·.1))) ∧ ∀ e ∈ L, e.1.depth ≤ 8
theorem KHN.ok {h : Heap} {L : List Zt.EN} (ok : HOk P Wd.w H h) (K : KHN H L) : ∀ e ∈ L, Zt.KIn h e := by
  obtain ⟨⟨ks, d, n⟩, dp⟩ := K
  have go : ∀ {L : List Zt.EN} {ks : List D}, DvAll H (L.map fun e => V.ref e.2) ks → nkAll ks = some (L.map (·.1)) → ∀ e ∈ L, NestedIs h e.1 (.ref e.2) := by
    intro L
    induction L with
    | nil => intro _ _ _ x hx; cases hx
    | cons x xs ih =>
      intro ks d n z hz
      rw [List.map_cons] at d
      cases d with | cons d1 d2 => ?_
      simp only [nkAll, List.map_cons] at n
      split at n
      · rename_i k' ks' e1 e2
        injection n with n
        injection n with n1 n2
        rcases List.mem_cons.mp hz with rfl | hz
        · rw [← n1]
          exact nk_is ok d1 e1 rfl
        · exact ih d2 (by rw [e2, n2]) z hz
      · cases n
  exact fun e he => ⟨go d n e he, dp e he⟩
/-- what the new set of tuples asks -/
def rNPut (D : Addr) : V → Hp → (Hp → Prop) → Prop := fun y H Nx => ∃ (L : List Zt.EN) (k : NestedKey) (x : Addr), y = .ref x ∧ H D = some (setNO L D) ∧ KHN H L ∧ YH H true k y ∧ L.length + 1 < 64 ∧
  ∀ L', (k ∈ L.map (·.1) → L' = L) → (k ∉ L.map (·.1) → L'.Perm ((k, x) :: L)) → Nx (upd H D (setNO L' D))
theorem nput_ok {X : Cx} {D : Addr} (hw : X.w = Wd.w) (hu : X.A.units + 64 < cLine) : AddR X D (rNPut D) := by
  intro pins s σ H y v Nx I r h
  obtain ⟨L, k, x, rfl, e, K, Y, hl, n⟩ := h
  cases (show v = Value.ref x from r)
  have ok := Inv.okW hw I
  obtain ⟨es, ep, t, R⟩ := (I.hok D _ e).1
  have hx : Zt.KIn s.heap (k, x) := by
    have ky := Y.ok ok (u := .ref x) rfl
    exact ⟨ky.2.2 rfl, ky.1.2.1⟩
  obtain ⟨o, ho, xo, hd⟩ := R.obj
  rw [hw]
  refine wpAny_call_entry PySem.F.slot_set_add ⟨o, ho, xo.1⟩ PySem.F.entry_set_add ?_ (PySem.F.args_set_add_2 _ _)
  unfold Builtin.«set.add» Builtin.Frozenset.oneOther
  simp only [List.isEmpty_nil, bind_assoc]
  unfold Builtin.Frozenset.addrOf setAdd
  refine wpAny_bind (wpAny_pure ?_)
  try dsimp only
  refine wpAny_bind (wpAny_pure ?_)
  try dsimp only
  refine wpAny_bind (wpAny_holding ?_)
  refine wpAny_bind (pyHash_key k _ _ _ _ hx.1 (by have h1 : k.depth ≤ 8 := hx.2; show X.A.in1.units + k.depth < cLine; have h2 : X.A.in1.units = X.A.units + 1 := rfl; omega) ?_)
  refine Zt.added (s := { s with toks := s.toks + k.draws }) R (KHN.ok ok K) hx (by have : X.A.in1.units = X.A.units + 1 := rfl; omega) hl fun b h' L' es' ep' t' sb R' c1 c2 => ?_
  show wpAny _ _ (ret Value.none) _ _ _
  exact wpAny_pure ⟨_, rfl, _, d_write (t' := s.toks + k.draws) (I.tok (s.toks + k.draws)) (by rw [e]; exact True.intro) sb (by obtain ⟨o', ho', _⟩ := R'.obj; exact ⟨o', ho'⟩) (setN_ok ⟨es', ep', t', R'⟩), n L' c1 c2⟩
/-- data with what isn't there -/
def plusD (ks : List D) (q : NestedKey) (d : D) : List D := if (ks.any fun k => decide (nk k = some q)) = true then ks else d :: ks
def aNEmit (e : AE) : ACg (List D) := fun s acc k => e s fun r s1 => toW r s1 fun w s2 => match w with
  | .d d => match keyX true d with
    | some q => acc.length + 1 < 64 ∧ k s2 (plusD acc q d)
    | none => False
  | _ => False
theorem nkAll_any {q : NestedKey} : ∀ {ks : List D} {qs : List NestedKey}, nkAll ks = some qs → ((ks.any fun k => decide (nk k = some q)) = true ↔ q ∈ qs)
  | [], qs, n => by cases n; simp
  | k :: ks, qs, n => by
    simp only [nkAll] at n
    split at n
    · rename_i k' ks' e1 e2
      cases n
      rw [List.any_cons, Bool.or_eq_true, nkAll_any e2, List.mem_cons, decide_eq_true_eq, e1]
      constructor
      · rintro (h | h)
        · exact .inl (Option.some.inj h).symm
        · exact .inr h
      · rintro (h | h)
        · exact .inl (by rw [h])
        · exact .inr h
    · cases n
theorem dvAll_perm {L L' : List Zt.EN} (p : L'.Perm L) : ∀ {ks : List D}, DvAll F (L.map fun e => V.ref e.2) ks → nkAll ks = some (L.map (·.1)) → ∃ ks', ks'.Perm ks ∧ DvAll F (L'.map fun e => V.ref e.2) ks' ∧ nkAll ks' = some (L'.map (·.1)) := by
  have split1 : ∀ {e : Zt.EN} {l : List Zt.EN} {ks : List D}, DvAll F ((e :: l).map fun e => V.ref e.2) ks → nkAll ks = some ((e :: l).map (·.1)) → ∃ k ks', ks = k :: ks' ∧ Dv F (.ref e.2) k ∧ nk k = some e.1 ∧ DvAll F (l.map fun e => V.ref e.2) ks' ∧ nkAll ks' = some (l.map (·.1)) := by
    intro e l ks d n
    rw [List.map_cons] at d
    cases d with | cons d1 d2 => ?_
    simp only [nkAll, List.map_cons] at n
    split at n
    · rename_i k' ks' e1 e2
      injection n with n
      injection n with n1 n2
      exact ⟨_, _, rfl, d1, by rw [e1, n1], d2, by rw [e2, n2]⟩
    · cases n
  have join1 : ∀ {e : Zt.EN} {l : List Zt.EN} {k : D} {ks : List D}, Dv F (.ref e.2) k → nk k = some e.1 → DvAll F (l.map fun e => V.ref e.2) ks → nkAll ks = some (l.map (·.1)) → DvAll F ((e :: l).map fun e => V.ref e.2) (k :: ks) ∧ nkAll (k :: ks) = some ((e :: l).map (·.1)) := by
    intro e l k ks d1 n1 d2 n2
    exact ⟨.cons d1 d2, by rw [nkAll, n1, n2]; rfl⟩
  induction p with
  | nil => intro ks d n; exact ⟨ks, List.Perm.refl _, d, n⟩
  | cons e p ih =>
    intro ks d n
    obtain ⟨k, ks', rfl, d1, n1, d2, n2⟩ := split1 d n
    obtain ⟨ks2, p2, d3, n3⟩ := ih d2 n2
    obtain ⟨a, b⟩ := join1 d1 n1 d3 n3
    exact ⟨k :: ks2, p2.cons k, a, b⟩
  | swap e e' l =>
    intro ks d n
    obtain ⟨k, ks', rfl, d1, n1, d2, n2⟩ := split1 d n
    obtain ⟨k2, ks2, rfl, d3, n3, d4, n4⟩ := split1 d2 n2
    obtain ⟨a, b⟩ := join1 d1 n1 d4 n4
    obtain ⟨a2, b2⟩ := join1 d3 n3 a b
    exact ⟨k2 :: k :: ks2, List.Perm.swap _ _ _, a2, b2⟩
  | trans p q ih1 ih2 =>
    intro ks d n
    obtain ⟨k1, p1, d1, n1⟩ := ih2 d n
    obtain ⟨k2, p2, d2, n2⟩ := ih1 d1 n1
    exact ⟨k2, p2.trans p1, d2, n2⟩
theorem RCg.nemit {te : TE} {e : AE} (he : RE Z te e) : RCg Z ON (fun D σ H Nx => te σ H fun y H7 => rNPut D y H7 Nx) (aNEmit e) := fun B hB F al s σ H Dl acc o Nx k X A eD oa h q => by
  obtain ⟨L, ks0, rfl, pm, dv, n, dp⟩ := oa
  refine he (B.gd Dl (setNO L Dl)) (hB.gd A.g) F al s σ H _ _ (X.guard A eD) h ?_
  intro r s1 F1 al1 H1 v1 x1 X1 rv1 h1
  obtain ⟨F2, al2, w, s2, x2, X2, wv, h2⟩ := toW_ok X1 rv1 h1
  have xx : Ext F F2 al al2 s.st.length s2.st.length := x1.trans x2
  split at h2
  · rename_i d
    split at h2
    · rename_i q' eq
      obtain ⟨X5, eD5, A5⟩ := X2.unguard A.g
      have dvd : Dv F2 v1 d := wv
      have yh : YH H1 true q' v1 := keyX_y eq (dvd.mono X5.sm)
      obtain ⟨⟨_, dq, b, rfl⟩, _⟩ := id yh
      have len : L.length = acc.length := by rw [← pm.length_eq, ← dv.length, List.length_map]
      have dv2 := dv.mono xx.ff
      have any : (acc.any fun k => decide (nk k = some q')) = true ↔ q' ∈ L.map (·.1) := by
        rw [← nkAll_any n]
        simp only [List.any_eq_true]
        exact ⟨fun ⟨x, h1, h2⟩ => ⟨x, pm.mem_iff.mpr h1, h2⟩, fun ⟨x, h1, h2⟩ => ⟨x, pm.mem_iff.mp h1, h2⟩⟩
      refine ⟨L, q', b, rfl, eD5, ⟨⟨ks0, dv2.mono X5.sm, n⟩, dp⟩, yh, by rw [len]; exact h2.1, fun L' c1 c2 => ?_⟩
      refine q F2 al2 s2 _ (plusD acc q' d) _ xx (X5.other A5) A5 upd_same ⟨L', ?_⟩ h2.2
      unfold plusD
      by_cases z : (acc.any fun k => decide (nk k = some q')) = true
      · rw [if_pos z]
        cases c1 (any.mp z)
        exact ⟨ks0, rfl, pm, dv2, n, dp⟩
      · rw [if_neg z]
        have pL := c2 fun y => z (any.mpr y)
        obtain ⟨ks', p', d', n'⟩ := dvAll_perm (F := F2) pL (ks := d :: ks0) (.cons dvd dv2) (by rw [nkAll, keyX_nk eq, n]; rfl)
        refine ⟨ks', rfl, p'.trans (pm.cons d), d', n', fun e he => ?_⟩
        rcases List.mem_cons.mp (pL.mem_iff.mp he) with rfl | he
        · exact dq
        · exact dp e he
    · exact h2.elim
  · exact h2.elim
/-- len of a set of tuples -/
def rNLen : List V → Hp → VK → Prop := fun vs H Q => ∃ (a : Addr) (L : List Zt.EN), vs = [.ref a] ∧ H a = some (setNO L a) ∧ Q (.int ((L.length : Nat) : Int)) H
theorem cr_nlen {X : Cx} : CallR X (.builtin "len") rNLen := by
  intro pins s σ H vs us Q I r h
  obtain ⟨a, L, rfl, e, q⟩ := h
  obtain ⟨u, rfl, rx⟩ := vals1 r
  obtain rfl : u = .ref a := rx
  obtain ⟨es, ep, t, R⟩ := (I.hok a _ e).1
  obtain ⟨o, ho, xo, hd⟩ := R.obj
  have c := R.count (s := s)
  have l := R.lt64
  exact call_len_set ho xo hd (R.fit (s := s)) (by rw [c]; omega) ⟨.int ((L.length : Nat) : Int), H, I.tok _, ⟨_, by rw [c]⟩, q⟩
def aNLen (ai : AI) (tg : Tgt) (c : AT) (inner : ACg (List D)) (vs : List Nat) : AE := fun s A => ai s fun ds s1 => cgG tg c inner vs (fun s2 ks => A (.w (.d (.int ks.length))) ⟨backE s1.env s2.env vs, s2.st⟩) ds ⟨wipeE s1.env vs, s1.st⟩ [] ⟨⟩
theorem RE.nlen {ti : TI} {ai : AI} {g : TG} {tg : Tgt} {tt : TT} {c : AT} {tc : Addr → TCl} {inner : ACg (List D)} {vs : List Nat} (hi : RI Z ti ai) (hg : RG g tg) (hc : RT Z tt c) (hin : RCg Z ON tc inner) (hv : ∀ j ∈ slots tg, j ∈ vs) :
    RE Z (tCB rNLen (tCons (tComp ti g tt tc vs (setNO [])) tNil)) (aNLen ai tg c inner vs) := fun B hB F al s σ H Q A X h q => by
  refine hi B hB F al s σ H _ _ X h ?_
  intro ds s1 F1 al1 H1 J G Y x1 X1 wk hG hY h1 Dl nD
  have A1 := X1.apart nD
  refine cg_loop on_mono hg hc hin hv hB ((X1.other A1).wipe) A1.wipe upd_same ⟨[], [], rfl, List.Perm.refl _, .nil, rfl, fun e he => (nomatch he)⟩ wk hG hY h1 ?_
  intro F' al' s' H' ks o' x' X' A' eD' oa' h'
  obtain ⟨L, ks0, rfl, pm, dv, n, dp⟩ := oa'
  obtain ⟨X3, A3⟩ := back_rel X1 x' X' A'
  refine ⟨Dl, L, rfl, eD', ?_⟩
  have : L.length = ks.length := by rw [← pm.length_eq, ← dv.length, List.length_map]
  rw [this]
  exact q (.w (.d (.int _))) ⟨backE s1.env s'.env vs, s'.st⟩ F' al' H' _ (x1.trans x') X3 (Dv.int _) h'
end
end Zi

set_option Elab.async false
set_option linter.all false
set_option maxRecDepth 100000
set_option maxHeartbeats 1000000
/-! Zp: dict(pairs), len(set(ints)), all, int, tuple, sum, *, +=, objects of own classes, keyword-only arguments. -/
namespace Zi
open PySem PySem.Spec PyProof.Rows L2 Ly Lc Zs
variable [Zi.Wd]
/-! ### rules over the hand layer -/
section
variable {X : Cx}
/-- what never comes -/
theorem ps_dead {st : Stmt} : PS X st (fun _ _ _ => False) := ⟨fun _ _ _ _ _ _ h => h.elim⟩
theorem pget_list (K : PySem.W.Frag) (hK : X.K = K) : PGet X (fun o i H Q => ∃ (p : Addr) (xs : List V) (k : Nat) (z : V), o = .ref p ∧ i = .int (k : Int) ∧ SqL K H p xs ∧ xs[k]? = some z ∧ Q z H) := by
  subst hK
  intro pins s σ H o i ov iv Q I ro ri h
  obtain ⟨p, xs, k, z, rfl, rfl, hq, he, q⟩ := h
  cases ro
  obtain ⟨t, rfl⟩ := ri
  obtain ⟨its, r, pl, hz⟩ := I.list hq
  obtain ⟨u, hu, ru⟩ := r.get he
  have hk : k < its.length := (List.getElem?_eq_some_iff.mp hu).1
  have l2 := r.length
  rw [sizeLine_eq] at hz
  exact wpAny_getItem_list pl.isList (by omega) (by omega) (by simpa using hu) ⟨z, H, I, ru, q⟩
/-- len(set(xs)), xs a list of ints -/
def tLenSet2 (K : PySem.W.Frag) (ta : TE) : TE := fun σ H Q => ta σ H fun x H1 => ∃ (l : Addr) (ns : List Int), x = .ref l ∧ SqL K H1 l (ns.map V.int) ∧ ns.length ≤ 4000 ∧ Q (.int ((PyProof.Rows.firstMet (fun i => ns.getD i 0) ns.length).length : Nat)) H1
theorem pe_lenSet2 (K : PySem.W.Frag) (hK : X.K = K) {a : Expr} {ta : TE} {p p2 q pos : Pos} (hg : Gl X "len") (hm : X.mg "len" = none) (hg2 : Gl X "set") (hm2 : X.mg "set" = none) (ha : PE X a ta) (hc : X.calm = true := by rfl)
    (na : starEach [a] X.env = (false, eval a X.env) :: starEach [] X.env := by rfl) : PE X (.Call (.Name "len" p) [.Call (.Name "set" p2) [a] [] q] [] pos) (tLenSet2 K ta) := by
  subst hK
  refine ⟨fun pins s σ H Q I h => ?_⟩
  refine Call_ (ld_blt I hg hm boot_len (PyProof.Rows.callWith_builtin1 (PyProof.Rows.args_cons ?_ rfl) rfl rfl))
  refine Call_ (ld_blt I hg2 hm2 boot_set (PyProof.Rows.callWith_type1 (PyProof.Rows.args_cons (thn (ha.run pins s σ H _ I h) fun v s1 ⟨x, H1, I1, r1, q1⟩ => PyProof.Rows.args_nil ?_) na) na rfl))
  obtain ⟨l, ns, rfl, hq, hl, q1⟩ := q1
  cases r1
  obtain ⟨its, r, pl, hz⟩ := I1.list hq
  have cnt : its.toArray.size = ns.length := by rw [List.size_toArray, ← r.length, List.length_map]
  have allInts : PyProof.Rows.IntsAre its ns := by
    clear cnt pl hz q1 hq hl
    induction ns generalizing its with
    | nil => rw [List.map_nil] at r; cases r; exact .nil
    | cons n ns ih =>
      rw [List.map_cons] at r
      cases r with | cons r1 r2 => ?_
      obtain ⟨t, rfl⟩ := r1
      exact .cons n t (ih _ r2)
  refine call_set_list (I1.ok.hd hc) pl.isList (by simpa using allInts) (by rw [cnt]; unfold scanBound; omega) fun h' tk hS hk => PyProof.Rows.args_nil ?_
  rw [cnt] at hS
  obtain ⟨o, es, ep, t, ho, xo, hd, _, _, _, hf, hn⟩ := hS
  have few := PyProof.Rows.firstMet_length_le (fun i => ns.getD i 0) ns.length
  have I2 : Inv X pins σ H1 { s1 with heap := h', toks := tk } := I1.kept fun b o e => hk b o (Heap.lt_size e) e
  exact call_len_set ho xo hd hf (by rw [hn]; omega) ⟨.int _, H1, I2.tok _, ⟨_, by rw [hn]⟩, q1⟩
/-- keywords for all keyword-only parameters, no other defaults -/
theorem kb_all {K : PySem.W.Frag} {x qual : Str} {params : Arguments} {body : List Stmt} {scope : Scope} {kws : List (Str × V)} {f : Addr} {fd : FuncData} {ps ks : List Str} (F : FunD K x qual params body scope [] kws f fd) (n : Nat)
    (h : ∀ (kV doc pm : Value) (an : Option Addr) (cdv ct : Value) (us ws : List Value), us.length = n → ws.length = ks.length → bindArgs (PySem.W.fnOf x qual params body scope .none kV doc pm an cdv ct) ⟨us, ks.zip ws⟩ = pure (ps.zip (us ++ ws))) :
    KBn K fd ps n ks (fun us ws => us ++ ws) (fun vs zs => vs ++ zs) := by
  obtain ⟨oc, od, dV, kV, doc, pm, an, cdv, ct, osl, rfl, lk, hcd, hD, hK⟩ := F.ex
  rcases hD with ⟨_, rfl⟩ | ⟨e, _⟩
  · exact ⟨fun s us ws X l1 l2 => .of_eq (h kV doc pm an cdv ct us ws l1 l2), fun r1 r2 => r1.append r2⟩
  · exact absurd rfl e
end
/-! ### transformers -/
section
variable {Z : EX} {K : PySem.W.Frag} {B : Bs} {F F' H H' : Hp} {al al' : Nat → Addr} {s s' : AS} {σ σ' : L2.St} {v : V} {d : D}
theorem RS.dead {as : ASt} : RS Z (fun _ _ _ => False) (fun _ _ => False) := fun B hB D A rd F al s σ H X h => h.elim
/-- ints of a list -/
def intsD : List D → Option (List Int)
  | [] => some []
  | .int i :: ds => (intsD ds).map (i :: ·)
  | _ => none
theorem intsD_v : ∀ {vs : List V} {ds : List D} {ns : List Int}, DvAll F vs ds → intsD ds = some ns → vs = ns.map V.int
  | _, _, _, .nil, e => by cases e; rfl
  | _, d :: ds, _, .cons h t, e => by
    cases d <;> first | (cases e; done) | skip
    rename_i i
    simp only [intsD, Option.map_eq_some_iff] at e
    obtain ⟨ns, e1, rfl⟩ := e
    rw [List.map_cons, ← intsD_v t e1, h.intE]
def blsD : List D → Option (List Bool)
  | [] => some []
  | .bl i :: ds => (blsD ds).map (i :: ·)
  | _ => none
theorem blsD_v : ∀ {vs : List V} {ds : List D} {ns : List Bool}, DvAll F vs ds → blsD ds = some ns → vs = ns.map V.bl
  | _, _, _, .nil, e => by cases e; rfl
  | _, d :: ds, _, .cons h t, e => by
    cases d <;> first | (cases e; done) | skip
    rename_i i
    simp only [blsD, Option.map_eq_some_iff] at e
    obtain ⟨ns, e1, rfl⟩ := e
    rw [List.map_cons, ← blsD_v t e1, h.blE]
def bAll : List D → (D → Prop) → Prop := fun ds A => match ds with
  | [.lst xs] => match blsD xs with
    | some bs => A (.bl (bs.all id))
    | none => False
  | _ => False
theorem bAll_ok : OB (rAll K) bAll := fun F H vs ds Q A sm tv h q => by
  unfold bAll at h
  split at h
  · split at h
    · rename_i xs bs e
      cases tv with | cons t1 t => ?_
      cases t
      obtain ⟨a, us, rfl, ea, dv⟩ := t1
      cases blsD_v dv e
      exact ⟨a, bs, rfl, SqL.of ea, q _ _ (.bl _) h⟩
    · exact h.elim
  · exact h.elim
def bAny : List D → (D → Prop) → Prop := fun ds A => match ds with
  | [.lst xs] => match blsD xs with
    | some bs => A (.bl (bs.any id))
    | none => False
  | _ => False
theorem bAny_ok : OB (rAny K) bAny := fun F H vs ds Q A sm tv h q => by
  unfold bAny at h
  split at h
  · split at h
    · rename_i xs bs e
      cases tv with | cons t1 t => ?_
      cases t
      obtain ⟨a, us, rfl, ea, dv⟩ := t1
      cases blsD_v dv e
      exact ⟨a, bs, rfl, SqL.of ea, q _ _ (.bl _) h⟩
    · exact h.elim
  · exact h.elim
def bSum : List D → (D → Prop) → Prop := fun ds A => match ds with
  | [.lst xs] => match intsD xs with
    | some ns => A (.int ns.sum)
    | none => False
  | _ => False
theorem bSum_ok : OB (rSum K) bSum := fun F H vs ds Q A sm tv h q => by
  unfold bSum at h
  split at h
  · split at h
    · rename_i xs ns e
      cases tv with | cons t1 t => ?_
      cases t
      obtain ⟨a, us, rfl, ea, dv⟩ := t1
      cases intsD_v dv e
      exact ⟨a, ns, rfl, SqL.of ea, q _ _ (.int _) h⟩
    · exact h.elim
  · exact h.elim
def bInt : List D → (D → Prop) → Prop := fun ds A => match ds with
  | [.int i] => A (.int i)
  | [.bl k] => A (.int (if k then 1 else 0))
  | _ => False
theorem bInt_ok : OB (fun xs H Q => (∃ i, xs = [V.int i] ∧ Q (.int i) H) ∨ ∃ k, xs = [V.bl k] ∧ Q (.int (if k then 1 else 0)) H) bInt := fun F H vs ds Q A sm tv h q => by
  unfold bInt at h
  split at h
  · cases tv with | cons t1 t => ?_
    cases t
    exact .inl ⟨_, by rw [t1.intE], q _ _ (.int _) h⟩
  · cases tv with | cons t1 t => ?_
    cases t
    exact .inr ⟨_, by rw [t1.blE], q _ _ (.int _) h⟩
  · exact h.elim
/-- tuple(xs), xs a list -/
def aTupOf (t : AR) : AE := fun s A => t s fun rs s1 => match pks s1 rs with
  | some [.lst ds] => A (.w (.d (.tup ds))) s1
  | _ => False
theorem RE.tupOf {ta : TA} {t : AR} (ht : RR Z ta t) : RE Z (tCB (fun xs H Q => ∃ p ys, xs = [V.ref p] ∧ ((SqL K H p ys ∧ ∀ l, H l = none → Q (.ref l) (upd H l (.tup ys))) ∨ (SqT K H p ys ∧ Q (.ref p) H))) ta) (aTupOf t) := fun B hB F al s σ H Q A X h q =>
  ht B hB F al s σ H _ _ X h fun rs s1 F1 al1 H1 vs x1 X1 rvs h1 => by
    split at h1
    · rename_i ds e
      have tv := X1.peeks rvs e
      cases tv with | cons t1 t => ?_
      cases t
      obtain ⟨a, us, rfl, ea, dv⟩ := t1
      refine ⟨a, us, rfl, .inl ⟨SqL.of ea, fun p np => ?_⟩⟩
      obtain ⟨F2, x2, X2, d2⟩ := X1.newT np dv
      exact q (.w (.d (.tup ds))) s1 F2 al1 _ _ (x1.trans x2) X2 d2 h1
    · exact h1.elim
/-- len(set(xs)) of ints -/
def distinct (ns : List Int) : Nat := (PyProof.Rows.firstMet (fun i => ns.getD i 0) ns.length).length
def aLenSet (a : AE) : AE := fun s A => a s fun r s1 => pk s1 r fun d => match d with
  | .lst ds => match intsD ds with
    | some ns => ns.length ≤ 4000 ∧ A (.w (.d (.int (distinct ns)))) s1
    | none => False
  | _ => False
theorem RE.lenSet {te : TE} {a : AE} (ha : RE Z te a) : RE Z (tLenSet2 K te) (aLenSet a) := fun B hB F al s σ H Q A X h q => by
  refine ha B hB F al s σ H _ _ X h ?_
  intro r s1 F1 al1 H1 v1 x1 X1 rv1 h1
  obtain ⟨d, e1, h2⟩ := pk_ok h1
  have tv := X1.peek rv1 e1
  split at h2
  · split at h2
    · rename_i ds ns e
      obtain ⟨a, vs, rfl, ea, dv⟩ := tv
      cases intsD_v dv e
      exact ⟨a, ns, rfl, SqL.of ea, h2.1, q (.w (.d (.int _))) s1 F1 al1 H1 _ x1 X1 (Dv.int _) h2.2⟩
    · exact h2.elim
  · exact h2.elim
/-- list * int -/
def oRep : O2L := fun d e A => match d, e with
  | .lst ds, .int k => 0 ≤ k ∧ k < 2 ^ 63 ∧ ds.length * k.toNat ≤ sizeLine ∧ A (List.replicate k.toNat ds).flatten
  | _, _ => False
theorem dvAll_rep {vs : List V} {ds : List D} (h : DvAll F vs ds) : ∀ n, DvAll F (List.replicate n vs).flatten (List.replicate n ds).flatten
  | 0 => .nil
  | n + 1 => by
    rw [List.replicate_succ, List.replicate_succ, List.flatten_cons, List.flatten_cons]
    exact h.append (dvAll_rep h n)
theorem oRep_ok : OR2L rRep oRep := fun F H x y d e Q A sm hx hy h q => by
  cases d <;> cases e <;> first | exact h.elim | skip
  rename_i ds k
  obtain ⟨h1, h2, h3, h4⟩ := h
  obtain ⟨a, vs, rfl, ea, dv⟩ := hx
  exact ⟨a, k, vs, rfl, hy.intE, ea, by omega, h2, by rw [dv.length]; exact h3, fun p n => q _ p _ n (dvAll_rep dv _) h4⟩
/-- xs[i] += e -/
def aAugS (o i e : AE) (f : Int → Int → Int) : ASt := fun N s => o s fun ro s1 => i s1 fun ri s2 => pk s2 ri fun di => match di with
  | .int (.ofNat k) => (match getC s2 ro with | some (.lst ds) => k < ds.length | _ => False) ∧ e s2 fun re s3 => pk s3 re fun de => match getC s3 ro, de with
    | some (.lst ds), .int y => (match getC s2 ro with | some (.lst ds') => ds'[k]? = ds[k]? | _ => False) ∧ match ds[k]? with
      | some (.int x) => N.nx (putC s3 ro (.lst (ds.set k (.int (f x y)))))
      | _ => False
    | _, _ => False
  | _ => False
theorem RS.augS {to ti te : TE} {o i e : AE} {f : Int → Int → Int} (ho : RE Z to o) (hi : RE Z ti i) (he : RE Z te e) :
    RS Z (tAugS to ti te (fun o i H Q => ∃ (p : Addr) (xs : List V) (k : Nat) (z : V), o = .ref p ∧ i = .int (k : Int) ∧ SqL K H p xs ∧ xs[k]? = some z ∧ Q z H) (ipI f) rSetL) (aAugS o i e f) := fun B hB D A rd F al s σ H X h => by
  refine ho B hB F al s σ H _ _ X h ?_
  intro ro s1 F1 al1 H1 v1 x1 X1 rv1 h1
  refine hi B hB F1 al1 s1 σ H1 _ _ X1 h1 ?_
  intro ri s2 F2 al2 H2 v2 x2 X2 rv2 h2
  obtain ⟨di, e1, h2⟩ := pk_ok h2
  have tvi := X2.peek rv2 e1
  split at h2
  · rename_i k
    obtain ⟨g1, h2⟩ := h2
    have rvo := rv1.ext x2
    cases eg : getC s2 ro with
    | none => rw [eg] at g1; exact g1.elim
    | some c0 =>
      rw [eg] at g1 h2
      cases c0 <;> first | exact g1.elim | skip
      rename_i ds0
      obtain ⟨p, o1, rfl, ho1, hc1, _⟩ := X2.getC rvo eg
      cases hc1 with | lst dv0 => ?_
      rename_i vs0
      have hk : k < vs0.length := by rw [dv0.length]; exact g1
      have old : ∃ z, vs0[k]? = some z ∧ te σ H2 fun y4 H4 => ipI f z y4 H4 fun z5 H5 => rSetL (.ref p) v2 z5 H5 fun H6 => D.nx σ H6 := by
        · refine ⟨vs0[k], List.getElem?_eq_getElem hk, ?_⟩
          refine he B hB F2 al2 s2 σ H2 _ _ X2 h2 ?_
          intro re s3 F3 al3 H3 v3 x3 X3 rv3 h3
          obtain ⟨de, e3, h3⟩ := pk_ok h3
          have tve := X3.peek rv3 e3
          split at h3
          · rename_i ds y eg3
            obtain ⟨same, h3⟩ := h3
            split at h3
            · rename_i x ex
              obtain ⟨p', o2, ep, ho2, hc2, pt⟩ := X3.getC (rvo.ext x3) eg3
              cases ep
              cases hc2 with | lst dv2 => ?_
              rename_i vs2
              have hx0 : ds0[k]? = some (.int x) := by rw [same]; exact ex
              obtain ⟨z, hz, dz⟩ := dv0.get hx0
              rw [List.getElem?_eq_getElem hk] at hz
              cases hz
              obtain ⟨z2, hz2, dz2⟩ := dv2.get ex
              have hk2 : k < vs2.length := (List.getElem?_eq_some_iff.mp hz2).1
              refine ⟨x, y, dz.intE, tve.intE, p, vs2, k, k, rfl, tvi.intE, ho2, ?_, ?_⟩
              · unfold ixN
                rw [if_pos (by omega), if_pos (by omega)]; rfl
              · obtain ⟨X4, _⟩ := pt _ _ (.lst (dv2.set k (Dv.int (f x y))))
                exact rd.nx F3 al3 _ σ _ X4 h3
            · exact h3.elim
          · exact h3.elim
      obtain ⟨z, hz, q⟩ := old
      exact ⟨p, vs0, k, z, rfl, tvi.intE, SqL.of ho1, hz, q⟩
  · exact h2.elim
/-! ### objects of own classes -/
def aFld (C : Addr) (f : Str) (a : AE) : AE := fun s A => a s fun r s1 => match getC s1 r with
  | some (.ins C' fs) => C' = C ∧ match fs.lookup f with
    | some w => A (.w w) s1
    | none => False
  | _ => False
theorem lookup_paired {L : Nat} {f : Str} {w : W} : ∀ {fs : List (Str × V)} {ws : List (Str × W)}, Paired (fun (p : Str × V) (q : Str × W) => p.1 = q.1 ∧ WV F al L q.2 p.2) fs ws → ws.lookup f = some w → ∃ v, fs.lookup f = some v ∧ WV F al L w v
  | _, _, .nil, e => by cases e
  | (f1, v1) :: fs, (f2, w2) :: ws, .cons h t, e => by
    obtain ⟨h1, h2⟩ := h
    dsimp only at h1 h2
    subst h1
    rw [List.lookup_cons] at e ⊢
    split at e
    · rename_i hb
      cases e
      exact ⟨v1, by simp [hb], h2⟩
    · rename_i hb
      obtain ⟨v, e1, e2⟩ := lookup_paired t e
      exact ⟨v, by simp [hb, e1], e2⟩
theorem RE.fld {C : Addr} {f : Str} {te : TE} {a : AE} (hC : Cls K C) (hn : NoAttr K C f) (ha : RE Z te a) : RE Z (tFld K te f) (aFld C f a) := fun B hB F al s σ H Q A X h q => by
  refine ha B hB F al s σ H _ _ X h ?_
  intro r s1 F1 al1 H1 v1 x1 X1 rv1 h1
  split at h1
  · rename_i C' fs eg
    obtain ⟨rfl, h1⟩ := h1
    obtain ⟨a, o, rfl, ho, hc, _⟩ := X1.getC rv1 eg
    cases hc with | ins pr => ?_
    rename_i dx vs
    split at h1
    · rename_i w ew
      obtain ⟨v, e1, e2⟩ := lookup_paired pr ew
      exact ⟨a, _, dx, vs, v, rfl, ho, hC, hn, e1, q (.w w) s1 F1 al1 H1 v x1 X1 e2 h1⟩
    · exact h1.elim
  · exact h1.elim
def putW (f : Str) (w : W) : List (Str × W) → List (Str × W)
  | [] => [(f, w)]
  | (g, x) :: r => if g = f then (g, w) :: r else (g, x) :: putW f w r
theorem putW_paired {L : Nat} {f : Str} {w : W} {v : V} (hw : WV F al L w v) : ∀ {fs : List (Str × V)} {ws : List (Str × W)}, Paired (fun (p : Str × V) (q : Str × W) => p.1 = q.1 ∧ WV F al L q.2 p.2) fs ws →
    Paired (fun (p : Str × V) (q : Str × W) => p.1 = q.1 ∧ WV F al L q.2 p.2) (putF f v fs) (putW f w ws)
  | _, _, .nil => .cons ⟨rfl, hw⟩ .nil
  | (f1, v1) :: fs, (f2, w2) :: ws, .cons h t => by
    obtain ⟨h1, h2⟩ := h
    dsimp only at h1 h2
    subst h1
    unfold putF putW
    by_cases e : f1 = f
    · rw [if_pos e, if_pos e]; exact .cons ⟨rfl, hw⟩ t
    · rw [if_neg e, if_neg e]; exact .cons ⟨rfl, h2⟩ (putW_paired hw t)
/-- o.f = e -/
def aSetF (C : Addr) (f : Str) (o e : AE) : ASt := fun N s => e s fun r s1 => toW r s1 fun w s2 => o s2 fun ro s3 => match getC s3 ro with
  | some (.ins C' fs) => C' = C ∧ fs.length < 1000 ∧ N.nx (putC s3 ro (.ins C (putW f w fs)))
  | _ => False
theorem RS.setF {C : Addr} {f : Str} {te to : TE} {o e : AE} (hC : Cls K C) (hn : NoAttr K C f) (ho : RE Z to o) (he : RE Z te e) : RS Z (sFld K to te f) (aSetF C f o e) := fun B hB D A rd F al s σ H X h => by
  refine he B hB F al s σ H _ _ X h ?_
  intro r s1 F1 al1 H1 v1 x1 X1 rv1 h1
  obtain ⟨F2, al2, w, s2, x2, X2, wv, h2⟩ := toW_ok X1 rv1 h1
  refine ho B hB F2 al2 s2 σ H1 _ _ X2 h2 ?_
  intro ro s3 F3 al3 H3 v3 x3 X3 rv3 h3
  split at h3
  · rename_i C' fs eg
    obtain ⟨rfl, h3, h4⟩ := h3
    obtain ⟨a, o, rfl, ho, hc, pt⟩ := X3.getC rv3 eg
    cases hc with | ins pr => ?_
    rename_i dx vs
    obtain ⟨X4, _⟩ := pt _ _ (.ins (dx := dx) (putW_paired (f := f) (wv.ext x3) pr))
    exact ⟨a, _, dx, vs, rfl, ho, hC, hn, by rw [Paired.len pr]; exact h3, rd.nx F3 al3 _ σ _ X4 h4⟩
  · exact h3.elim
/-- C(..): the object comes to the store, then __init__ runs -/
def aMake (C : Addr) (m : Nat) (asp : ASp) (t : AA) : AN := fun s A => t s fun ws s1 => ws.length + 1 = m ∧ callG asp (.loc s1.st.length :: ws) (s1.st ++ [.ins C []]) (fun n st' => n = .w (.d .non) ∧ A (.w (.loc s1.st.length)) ⟨s1.env, st'⟩) ea0 ⟨⟩
theorem RN.make {C : Addr} {m : Nat} {asp : ASp} {ta : TA} {t : AA} (ht : RA Z ta t) : RN Z (tMake C (SpA m asp) [] E0 ta) (aMake C m asp t) := fun B hB F al s σ H Q A X h q =>
  ht B hB F al s σ H _ _ X h fun ws s1 F1 al1 H1 vs x1 X1 wvs h1 => by
    intro x dx nx ndx ne
    have X2 := X1.new (o := HO.own x) ndx
    have nx2 : upd H1 dx (.own x) x = none := by rw [upd_ne (Ne.symm ne)]; exact nx
    have ap := X2.apart nx2
    have X3 := X2.new (o := HO.ins C dx []) nx2
    obtain ⟨al2, x2, ea, X4⟩ := X3.push (c := Cell.ins C []) ap ⟨ap.f, HO.ins C dx [], upd_same, CO.ins .nil⟩
    obtain ⟨G', Y, k⟩ := X4.frame
    have hw : WVs F1 al2 (s1.st ++ [Cell.ins C []]).length (.loc s1.st.length :: ws) (V.ref x :: vs) := .cons ⟨by rw [ea], by rw [List.length_append]; simp⟩ (wvs.ext x2)
    refine ⟨⟨G', F1, al2, (s1.st ++ [Cell.ins C []]).length⟩, .loc s1.st.length :: ws, s1.st ++ [Cell.ins C []], _, ea0, Y, rfl, by rw [List.append_nil]; exact hw, h1.1, h1.2, fun n st' F' al' H' v z Y' nv => ?_, fun C fs st' z => z.elim⟩
    obtain ⟨z1, z2⟩ := z
    subst z1
    obtain ⟨ex, X5, k2⟩ := k F' al' st' H' Y'
    have lt : s1.st.length < (s1.st ++ [Cell.ins C []]).length := by rw [List.length_append]; simp
    refine ⟨(show Dv F' v .non from nv).nonE, q (.w (.loc s1.st.length)) ⟨s1.env, st'⟩ F' al' H' _ ((x1.trans x2).trans ex) X5 (NVe.val ⟨?_, Nat.lt_of_lt_of_le lt ex.ln⟩) z2⟩
    rw [ex.al _ lt, ea]
end
end Zi

set_option Elab.async false
set_option linter.all false
set_option maxRecDepth 100000
set_option maxHeartbeats 1000000
/-! Zq: dict(pairs) as data; a display of one pair of constants; typed loops of comprehensions into any object. -/
namespace Zi
open PySem PySem.Spec PyProof.Rows L2 Ly Lc Zs
variable [Zi.Wd]
/-! ### dict(pairs) -/
/-- entries of pairs -/
def ent1 (t : Bool) : D → Option (NestedKey × D × D)
  | .tup [k, d] => (keyX t k).map fun q => (q, k, d)
  | _ => none
def entsD (t : Bool) : List D → Option (List (NestedKey × D × D))
  | [] => some []
  | d :: ds => match ent1 t d, entsD t ds with
    | some e, some es => some (e :: es)
    | _, _ => none
def putAllD (kds : List (D × D)) (es : List (NestedKey × D × D)) : List (D × D) := es.foldl (fun acc e => putD acc e.1 e.2.1 e.2.2) kds
section
variable {Z : EX} {K : PySem.W.Frag} {B : Bs} {F F' H H' : Hp} {al al' : Nat → Addr} {s s' : AS} {σ σ' : L2.St} {v : V} {d : D} {t : Bool}
abbrev EN1 (F : Hp) (x : DX) (e : NestedKey × D × D) : Prop := x.1 = e.1 ∧ nk e.2.1 = some e.1 ∧ Dv F x.2.1 e.2.1 ∧ Dv F x.2.2 e.2.2
theorem ents_of : ∀ {vs : List V} {ds : List D} {es : List (NestedKey × D × D)}, DvAll F vs ds → entsD t ds = some es →
    ∃ (ps : List Addr) (xs : List DX), vs = ps.map V.ref ∧ Paired (fun (p : Addr) (e : DX) => F p = some (.tup [e.2.1, e.2.2])) ps xs ∧ (∀ e ∈ xs, YH F t e.1 e.2.1) ∧ Paired (EN1 F) xs es
  | _, _, _, .nil, e => by cases e; exact ⟨[], [], rfl, .nil, fun e he => (nomatch he), .nil⟩
  | _, d :: ds, es, .cons h r, e => by
    simp only [entsD] at e
    split at e
    · rename_i e1 es1 q1 q2
      cases e
      obtain ⟨ps, xs, rfl, pr, yh, pe⟩ := ents_of r q2
      unfold ent1 at q1
      split at q1
      · rename_i k x
        rw [Option.map_eq_some_iff] at q1
        obtain ⟨q, kq, rfl⟩ := q1
        obtain ⟨a, us, rfl, ea, dv⟩ := h.tupE
        cases dv with | cons d1 d2 => ?_
        cases d2 with | cons d2 d3 => ?_
        cases d3
        rename_i v1 v2
        refine ⟨a :: ps, (q, v1, v2) :: xs, rfl, .cons ea pr, fun e he => ?_, .cons ⟨rfl, keyX_nk kq, d1, d2⟩ pe⟩
        rcases List.mem_cons.mp he with rfl | he
        · exact keyX_y kq d1
        · exact yh e he
      · cases q1
    · cases e
theorem putAll_ok : ∀ {xs : List DX} {es : List (NestedKey × D × D)}, Paired (EN1 F) xs es → ∀ {ys : List DX} {kds : List (D × D)}, Paired (EX1 F) ys kds → Paired (EX1 F) (putAll ys xs) (putAllD kds es)
  | _, _, .nil, _, _, h => h
  | _, _, .cons (a := x) (b := e) h r, ys, kds, q => by
    refine putAll_ok r (ys := putX ys x.1 x.2.1 x.2.2) (kds := putD kds e.1 e.2.1 e.2.2) ?_
    rw [h.1]
    exact put_ok2 q h.2.2.1 h.2.1 h.2.2.2
def aXDict (t : Bool) (a : AR) : AN := fun s A => a s fun rs s1 => match pks s1 rs with
  | some [.lst ds] => match entsD t ds with
    | some es => A (.new (.dit t (putAllD [] es))) s1
    | none => False
  | _ => False
theorem RN.xdict {t : Bool} {ta : TA} {a : AR} (ht : RR Z ta a) : RN Z (tCB (rXDict K) ta) (aXDict t a) := fun B hB F al s σ H Q A X h q =>
  ht B hB F al s σ H _ _ X h fun rs s1 F1 al1 H1 vs x1 X1 rvs h1 => by
    split at h1
    · rename_i ds e
      split at h1
      · rename_i es ee
        have tv := X1.peeks rvs e
        cases tv with | cons t1 t2 => ?_
        cases t2
        obtain ⟨a, us, rfl, ea, dv⟩ := t1
        obtain ⟨ps, xs, rfl, pr, yh, pe⟩ := ents_of dv ee
        refine ⟨a, ps, xs, t, rfl, SqL.of ea, Paired.up (fun _ _ z => SqT.of (X1.sm _ _ z)) pr, fun e he => ?_, fun p ep np => ?_⟩
        · obtain ⟨a1, d, a2, a3⟩ := yh e he
          exact ⟨a1, d, a2.mono X1.sm, a3⟩
        · obtain ⟨b1, b2, b3⟩ := ex_to (putAll_ok pe .nil)
          exact q (.new (.dit t _)) s1 F1 al1 _ _ x1 (X1.new np) ((X1.apart np).nve ⟨X1.sm.free np, _, upd_same, .dit (ep := ep) b1 b2 b3⟩) h1
      · exact h1.elim
    · exact h1.elim
end
/-! ### {0: 0} -/
section
variable {X : Cx}
def tXOne (k : Int) (v : V) : TE := fun σ H Q => ∀ p ep, H p = none → Q (.ref p) (upd H p (ditO false ep p [(.num k, .int k, v)]))
theorem pe_xone_int {k : Int} {i : Int} {k1 k2 : Nat} {p p1 p2 : Pos} (hw : X.w = Wd.w) : PE X (.Dict [some (.Constant (.int k) k1 p1)] [.Constant (.int i) k2 p2] p) (tXOne k (.int i)) := by
  refine ⟨fun pins s σ H Q I h => ?_⟩
  have big : (s.heap.objs.size == sysModules) = false := beq_eq_false_iff_ne.mpr (Nat.ne_of_gt I.big)
  have one : [((NestedKey.num k, V.int k, .int i) : DX)].length ≤ sizeLine := by show 1 ≤ sizeLine; decide
  have fin : ∀ h' (tk : Nat) (kv u : Value), RelV (.int k) kv → RelV (.int i) u → h'.DictOf (mixKind X.prog Wd.w) s.heap.objs.size [((.inl k : Key), u)] → (∀ b o, s.heap.get? b = some o → h'.get? b = some o) → EP X pins σ Q (.ref s.heap.objs.size) { s with heap := h', toks := tk } := by
    intro h' tk kv u rk ru dd sb
    obtain ⟨ep, R⟩ := K_raw (xs := [(.num k, .int k, .int i)]) (P := X.prog) (vs := [((.inl k : Key), u)]) one big (by simp) (fun x hx => by
      rw [List.mem_singleton.mp hx]; exact .inl ⟨k, rfl, rfl⟩) (.cons ⟨rfl, rfl, ru⟩ .nil) dd
    exact ⟨.ref s.heap.objs.size, _, I.laid (a := s.heap.objs.size) (o := ditO false ep s.heap.objs.size [(.num k, .int k, .int i)]) (t' := tk) sb (Nat.le_refl _) (dit_ok R), rfl, h _ ep (I.hok.fresh (Nat.le_refl _))⟩
  rw [hw]
  refine wpAny_Dict_walk (knd := mixKind X.prog Wd.w) (keys := [some (.Constant (.int k) k1 p1)]) (values := [.Constant (.int i) k2 p2]) rfl rfl (by simp) (by simp) ?_
  refine pairTrees_cons_walk ?_
  refine wpAny_Constant_int ?_
  refine wpAny_Constant_int ?_
  refine pairTrees_nil_walk ?_
  refine ⟨[((.inl k : Key), _)], ⟨?_, rfl, trivial⟩, ?_, fun h' dd sb => ?_⟩
  · exact kV_is (P := X.prog) (w := Wd.w) (show RelV (kV (.inl k)) (Value.int k _) from ⟨_, rfl⟩)
  · exact ⟨_, #[], 0, Heap.get?_push_size _ rfl, ⟨rfl, rfl, rfl⟩, rfl, fun e he => by simp at he, .nil, List.nodup_nil⟩
  · exact fin h' _ (.int k 0) _ ⟨_, rfl⟩ ⟨_, rfl⟩ dd fun b o e => (sb.2 b (Nat.ne_of_lt (Heap.lt_size e))).trans (Heap.get?_push_of_some _ e)
theorem pe_xone_bl {k : Int} {i : Bool} {k1 k2 : Nat} {p p1 p2 : Pos} (hw : X.w = Wd.w) : PE X (.Dict [some (.Constant (.int k) k1 p1)] [.Constant (.bool i) k2 p2] p) (tXOne k (.bl i)) := by
  refine ⟨fun pins s σ H Q I h => ?_⟩
  have big : (s.heap.objs.size == sysModules) = false := beq_eq_false_iff_ne.mpr (Nat.ne_of_gt I.big)
  have one : [((NestedKey.num k, V.int k, .bl i) : DX)].length ≤ sizeLine := by show 1 ≤ sizeLine; decide
  have fin : ∀ h' (tk : Nat) (kv u : Value), RelV (.int k) kv → RelV (.bl i) u → h'.DictOf (mixKind X.prog Wd.w) s.heap.objs.size [((.inl k : Key), u)] → (∀ b o, s.heap.get? b = some o → h'.get? b = some o) → EP X pins σ Q (.ref s.heap.objs.size) { s with heap := h', toks := tk } := by
    intro h' tk kv u rk ru dd sb
    obtain ⟨ep, R⟩ := K_raw (xs := [(.num k, .int k, .bl i)]) (P := X.prog) (vs := [((.inl k : Key), u)]) one big (by simp) (fun x hx => by
      rw [List.mem_singleton.mp hx]; exact .inl ⟨k, rfl, rfl⟩) (.cons ⟨rfl, rfl, ru⟩ .nil) dd
    exact ⟨.ref s.heap.objs.size, _, I.laid (a := s.heap.objs.size) (o := ditO false ep s.heap.objs.size [(.num k, .int k, .bl i)]) (t' := tk) sb (Nat.le_refl _) (dit_ok R), rfl, h _ ep (I.hok.fresh (Nat.le_refl _))⟩
  rw [hw]
  refine wpAny_Dict_walk (knd := mixKind X.prog Wd.w) (keys := [some (.Constant (.int k) k1 p1)]) (values := [.Constant (.bool i) k2 p2]) rfl rfl (by simp) (by simp) ?_
  refine pairTrees_cons_walk ?_
  refine wpAny_Constant_int ?_
  refine Constant_bool ?_
  refine pairTrees_nil_walk ?_
  refine ⟨[((.inl k : Key), _)], ⟨?_, rfl, trivial⟩, ?_, fun h' dd sb => ?_⟩
  · exact kV_is (P := X.prog) (w := Wd.w) (show RelV (kV (.inl k)) (Value.int k _) from ⟨_, rfl⟩)
  · exact ⟨_, #[], 0, Heap.get?_push_size _ rfl, ⟨rfl, rfl, rfl⟩, rfl, fun e he => by simp at he, .nil, List.nodup_nil⟩
  · exact fin h' _ (.int k 0) _ ⟨_, rfl⟩ rfl dd fun b o e => (sb.2 b (Nat.ne_of_lt (Heap.lt_size e))).trans (Heap.get?_push_of_some _ e)
end
def vD1 : D → V
  | .int i => .int i
  | .bl b => .bl b
  | _ => .non
section
variable {Z : EX}
def aXOne (k : Int) (d : D) : AN := fun s A => A (.new (.dit false [(.int k, d)])) s
theorem RN.xoneI {k i : Int} : RN Z (tXOne k (.int i)) (aXOne k (.int i)) := fun B hB F al s σ H Q A X h q => fun p ep np =>
  q (.new (.dit false [(.int k, .int i)])) s F al _ _ Ext.refl (X.new np) ((X.apart np).nve ⟨X.sm.free np, _, upd_same, .dit (ep := ep) (xs := [(.num k, .int k, .int i)]) (.cons (.int k) .nil) rfl (.cons (.int i) .nil)⟩) h
theorem RN.xoneB {k : Int} {i : Bool} : RN Z (tXOne k (.bl i)) (aXOne k (.bl i)) := fun B hB F al s σ H Q A X h q => fun p ep np =>
  q (.new (.dit false [(.int k, .bl i)])) s F al _ _ Ext.refl (X.new np) ((X.apart np).nve ⟨X.sm.free np, _, upd_same, .dit (ep := ep) (xs := [(.num k, .int k, .bl i)]) (.cons (.int k) .nil) rfl (.cons (.bl i) .nil)⟩) h
end
/-! ### typed loops -/
section
variable {α β : Type}
theorem cgGo_ty {t : Tgt} {c : AT} {inner : ACg β} {vs : List Nat} {k : AS → β → Prop} (tD : α → D) (I : List α → List α → AS → β → Prop) (xs : List α) (hnil : ∀ s acc, I xs [] s acc → k s acc)
    (hcons : ∀ pre x ys s acc (k' : AS → β → Prop), xs = pre ++ x :: ys → (∀ s acc, I (pre ++ [x]) ys s acc → k' s acc) → I pre (x :: ys) s acc → match bindT t (tD x) s.env with
      | some env' => c ⟨env', s.st⟩ fun b s1 => if b = true then inner s1 acc fun s2 acc' => k' ⟨wipeE s2.env vs, s2.st⟩ acc' else k' ⟨wipeE s1.env vs, s1.st⟩ acc
      | none => False) : ∀ s acc, I [] xs s acc → cgGo t c inner vs k (xs.map tD) s acc := by
  have main : ∀ (ys pre : List α) s acc, xs = pre ++ ys → I pre ys s acc → cgGo t c inner vs k (ys.map tD) s acc := by
    intro ys
    induction ys with
    | nil =>
      intro pre s acc e1 h
      rw [List.append_nil] at e1
      unfold cgGo
      exact hnil s acc (by rw [e1]; exact h)
    | cons y ys ih =>
      intro pre s acc e1 h
      rw [List.map_cons]
      unfold cgGo
      exact hcons pre y ys s acc _ e1 (fun s' a' h' => ih (pre ++ [y]) s' a' (by rw [e1]; simp) h') h
  exact fun s acc h => main xs [] s acc rfl h
end
end Zi

set_option Elab.async false
set_option linter.all false
set_option maxRecDepth 100000
set_option maxHeartbeats 1000000
/-! Zr: calls with a truth as the keyword-only value, written or not. -/
namespace Zi
open PySem PySem.Spec PyProof.Rows L2 Ly Lc Zs
variable [Zi.Wd]
section
variable {Z : EX} {K : PySem.W.Frag}
def aCallD (b : Bool) (m : Nat) (asp : ASp) (t : AA) : AN := fun s A => t s fun ws s1 => ws.length + 1 = m ∧ callG asp (ws ++ [.d (.bl b)]) s1.st (fun n st' => A n ⟨s1.env, st'⟩) ea0 ⟨⟩
theorem RN.callD {b : Bool} {m : Nat} {asp : ASp} {ta : TA} {t : AA} (ht : RA Z ta t) : RN Z (tCall (SpA m asp) [.bl b] E0 ta) (aCallD b m asp t) := fun B hB F al s σ H Q A X h q =>
  ht B hB F al s σ H _ _ X h fun ws s1 F1 al1 H1 vs x1 X1 wvs h1 => by
    obtain ⟨G', Y, k⟩ := X1.frame
    refine ⟨⟨G', F1, al1, s1.st.length⟩, ws ++ [W.d (.bl b)], s1.st, _, ea0, Y, rfl, Paired.app wvs (.cons (a := W.d (.bl b)) (b := V.bl b) (by exact Dv.bl b) .nil), by rw [List.length_append]; exact h1.1, h1.2, fun n st' F' al' H' v z Y' nv => ?_, fun C fs st' z => z.elim⟩
    obtain ⟨ex, X2, k2⟩ := k F' al' st' H' Y'
    exact q n ⟨s1.env, st'⟩ F' al' H' v (x1.trans ex) X2 (k2 n v nv) z
def aCallN (n j m : Nat) (asp : ASp) (t tk : AA) : AN := fun s A => t s fun ws s1 => tk s1 fun zs s2 => ws.length = n ∧ zs.length = j ∧ n + j = m ∧ callG asp (ws ++ zs) s2.st (fun n st' => A n ⟨s2.env, st'⟩) ea0 ⟨⟩
theorem RN.callN {n j m : Nat} {asp : ASp} {ta tb : TA} {t tk : AA} (ht : RA Z ta t) (hk : RA Z tb tk) : RN Z (tCallN n j (SpA m asp) (fun vs zs => vs ++ zs) E0 ta tb) (aCallN n j m asp t tk) := fun B hB F al s σ H Q A X h q =>
  ht B hB F al s σ H _ _ X h fun ws s1 F1 al1 H1 vs x1 X1 wvs h1 =>
  hk B hB F1 al1 s1 σ H1 _ _ X1 h1 fun zs s2 F2 al2 H2 us x2 X2 zvs h2 => by
    obtain ⟨G', Y, k⟩ := X2.frame
    refine ⟨by rw [← Paired.len wvs]; exact h2.1, by rw [← Paired.len zvs]; exact h2.2.1, ⟨G', F2, al2, s2.st.length⟩, ws ++ zs, s2.st, _, ea0, Y, rfl, Paired.app (wvs.ext x2) zvs, by rw [List.length_append, h2.1, h2.2.1]; exact h2.2.2.1, h2.2.2.2, fun n st' F' al' H' v z Y' nv => ?_, fun C fs st' z => z.elim⟩
    obtain ⟨ex, X3, k2⟩ := k F' al' st' H' Y'
    exact q n ⟨s2.env, st'⟩ F' al' H' v ((x1.trans x2).trans ex) X3 (k2 n v nv) z
end
end Zi

set_option Elab.async false
set_option linter.all false
set_option maxRecDepth 100000
set_option maxHeartbeats 1000000
/-! Za: tuples that hold cells; lists of values. -/
namespace Zi
open PySem PySem.Spec PyProof.Rows L2 Ly Lc Zs
variable [Zi.Wd]
def W0.w : W0 → W
  | .d x => .d x
  | .loc n => .loc n
def w0s : List W → Option (List W0)
  | [] => some []
  | .d x :: ws => (w0s ws).map (.d x :: ·)
  | .loc n :: ws => (w0s ws).map (.loc n :: ·)
  | _ :: _ => none
section
variable {Z : EX} {K : PySem.W.Frag} {B : Bs} {F F' H H' : Hp} {al al' : Nat → Addr} {s s' : AS} {σ σ' : L2.St} {v : V} {d : D}
theorem w0s_ok {L : Nat} : ∀ {ws : List W} {vs : List V} {us : List W0}, WVs F al L ws vs → w0s ws = some us → Paired (W0V F al L) us vs
  | _, _, _, .nil, e => by cases e; exact .nil
  | w :: ws, _, _, .cons h t, e => by
    cases w with
    | d x =>
      simp only [w0s, Option.map_eq_some_iff] at e
      obtain ⟨us, e1, rfl⟩ := e
      exact .cons h (w0s_ok t e1)
    | loc n =>
      simp only [w0s, Option.map_eq_some_iff] at e
      obtain ⟨us, e1, rfl⟩ := e
      exact .cons h (w0s_ok t e1)
    | raw u φ => cases e
    | tp us => cases e
def aTupW (t : AA) : AE := fun s A => t s fun ws s1 => ws.length ≤ sizeLine ∧ match w0s ws with
  | some us => A (.w (.tp us)) s1
  | none => False
theorem RE.tupW {ta : TA} {t : AA} (ht : RA Z ta t) : RE Z (tTup ta) (aTupW t) := fun B hB F al s σ H Q A X h q =>
  ht B hB F al s σ H _ _ X h fun ws s1 F1 al1 H1 vs x1 X1 wvs h1 => by
    refine ⟨by rw [← Paired.len wvs]; exact h1.1, fun p np => ?_⟩
    have h1 := h1.2
    split at h1
    · rename_i us z
      have fp := X1.sm.free np
      have x2 : Ext F1 (upd F1 p (.tup vs)) al1 al1 s1.st.length s1.st.length := Ext.frz fp
      refine q (.w (.tp us)) s1 _ al1 _ _ (x1.trans x2) ((X1.new np).frz (X1.apart np) upd_same) ⟨p, vs, rfl, upd_same, ?_⟩ h1
      exact Paired.up (fun _ _ => W0V.ext x2) (w0s_ok wvs z)
    · exact h1.elim
def nToL (n : N) (s : AS) (k : W → AS → Prop) : Prop := match n with
  | .w w => k w s
  | .new c => k (.loc s.st.length) ⟨s.env, s.st ++ [c]⟩
theorem nToL_ok {n : N} {k : W → AS → Prop} (X : Rel B F al s σ H) (h : NVe B F al s σ H n v) (e : nToL n s k) :
    ∃ al' w s', Ext F F al al' s.st.length s'.st.length ∧ Rel B F al' s' σ H ∧ WV F al' s'.st.length w v ∧ k w s' := by
  cases n with
  | w w => exact ⟨al, w, s, Ext.refl, X, h.1, e⟩
  | new c =>
    obtain ⟨⟨p, rfl, g, hc, a⟩, env⟩ := h
    obtain ⟨al', x, ea, X2⟩ := X.push ⟨g, hc.f, a, fun i c' ei => env c rfl i c' ei⟩ hc
    exact ⟨al', .loc s.st.length, _, x, X2, ⟨by rw [ea], by show s.st.length < (s.st ++ [c]).length; rw [List.length_append]; simp⟩, e⟩
/-- an argument that is a new container -/
def aConsN (a : AN) (t : AA) : AA := fun s A => a s fun n s1 => nToL n s1 fun w s2 => t s2 fun ws s3 => A (w :: ws) s3
theorem RA.consN {te : TE} {tr : TA} {a : AN} {t : AA} (ha : RN Z te a) (ht : RA Z tr t) : RA Z (tCons te tr) (aConsN a t) := fun B hB F al s σ H Q A X h q =>
  ha B hB F al s σ H _ _ X h fun n s1 F1 al1 H1 v1 x1 X1 nv1 h1 => by
    obtain ⟨al2, w, s2, x2, X2, wv, h2⟩ := nToL_ok X1 nv1 h1
    exact ht B hB F1 al2 s2 σ H1 _ _ X2 h2 fun ws s3 F3 al3 H3 vs x3 X3 wvs h3 => q (w :: ws) s3 F3 al3 H3 (v1 :: vs) ((x1.trans x2).trans x3) X3 (.cons (wv.ext x3) wvs) h3
theorem Paired.atI {α : Type} {P : α → V → Prop} {ws : List α} {vs : List V} {i : Int} {w : α} (h : Paired P ws vs) (e : L2.atI ws i = some w) : ∃ v, L2.atI vs i = some v ∧ P w v := by
  unfold L2.atI at e ⊢
  rw [← Paired.len h]
  cases z : ixN ws.length i with
  | none => rw [z] at e; cases e
  | some j =>
    rw [z] at e
    exact Paired.getE h (show ws[j]? = some w from e)
/-- item of a list of values -/
def aIxW (a i : AE) : AE := fun s A => a s fun r s1 => i s1 fun r2 s2 => pk s2 r2 fun d => match getC s2 r, d with
  | some (.lsw ws), .int j => match atI ws j with
    | some w => A (.w w) s2
    | none => False
  | _, _ => False
theorem RE.ixW {ta tb : TE} {a b : AE} (ha : RE Z ta a) (hb : RE Z tb b) : RE Z (tOp (rIx K) ta tb) (aIxW a b) := fun B hB F al s σ H Q A X h q =>
  ha B hB F al s σ H _ _ X h fun r1 s1 F1 al1 H1 v1 x1 X1 rv1 h1 => hb B hB F1 al1 s1 σ H1 _ _ X1 h1 fun r2 s2 F2 al2 H2 v2 x2 X2 rv2 h2 => by
    obtain ⟨d, e1, h2⟩ := pk_ok h2
    have tv := X2.peek rv2 e1
    split at h2
    · rename_i ws j eg
      split at h2
      · rename_i w ew
        obtain ⟨a, o, rfl, ho, hc, _⟩ := X2.getC (rv1.ext x2) eg
        cases hc with | lsw wvs => ?_
        rename_i vs
        obtain ⟨v, e2, wv⟩ := Paired.atI wvs ew
        exact .inl ⟨a, vs, j, v, rfl, tv.intE, SqL.of ho, e2, q (.w w) s2 F2 al2 H2 v (x1.trans x2) X2 wv h2⟩
      · exact h2.elim
    · exact h2.elim
def aLenW (a : AE) : AE := fun s A => a s fun r s1 => match getC s1 r with
  | some (.lsw ws) => A (.w (.d (.int ws.length))) s1
  | _ => False
theorem RE.lenW {te : TE} {a : AE} (ha : RE Z te a) : RE Z (tCB (rLenQ K) (tCons te tNil)) (aLenW a) := fun B hB F al s σ H Q A X h q => by
  refine ha B hB F al s σ H _ _ X h ?_
  intro r s1 F1 al1 H1 v1 x1 X1 rv1 h1
  split at h1
  · rename_i ws eg
    obtain ⟨a, o, rfl, ho, hc, _⟩ := X1.getC rv1 eg
    cases hc with | lsw wvs => ?_
    rename_i vs
    exact ⟨a, vs, rfl, .inl (SqL.of ho), by rw [← Paired.len wvs]; exact q (.w (.d (.int _))) s1 F1 al1 H1 _ x1 X1 (Dv.int _) h1⟩
  · exact h1.elim
def bindWs : List Nat → List W0 → List Sl → Option (List Sl)
  | [], [], e => some e
  | i :: is, u :: us, e => bindWs is us (e.set i (.v u.w))
  | _, _, _ => none
def gNames : List Nat → TGs
  | [] => gNil
  | i :: is => gCons (gName i) (gNames is)
theorem W0V.w {L : Nat} {u : W0} (h : W0V F al L u v) : WV F al L u.w v := by
  cases u with
  | d x => exact h
  | loc n => exact h
theorem bindWs_len : ∀ {is : List Nat} {us : List W0} {e e' : List Sl}, bindWs is us e = some e' → us.length = is.length
  | [], [], _, _, _ => rfl
  | [], _ :: _, _, _, h => by cases h
  | _ :: _, [], _, _, h => by cases h
  | _ :: _, _ :: _, _, _, h => congrArg (· + 1) (bindWs_len h)
theorem names_ok : ∀ {is : List Nat} {us : List W0} {vs : List V} {e' : List Sl} {s : AS} {σ : L2.St} {Q : L2.St → Hp → Prop}, Rel B F al s σ H → Paired (W0V F al s.st.length) us vs → bindWs is us s.env = some e' →
    (∀ σ', Rel B F al ⟨e', s.st⟩ σ' H → Q σ' H) → gNames is vs σ H Q
  | [], [], _, _, s, σ, Q, X, .nil, h, q => by cases h; exact ⟨rfl, q σ X⟩
  | [], _ :: _, _, _, _, _, _, _, _, h, _ => by cases h
  | _ :: _, [], _, _, _, _, _, _, _, h, _ => by cases h
  | i :: is, u :: us, _, _, s, σ, Q, X, .cons (b := v) p r, h, q => by
    refine ⟨v, _, rfl, ?_⟩
    exact names_ok (s := ⟨s.env.set i (.v u.w), s.st⟩) (X.setV i p.w) r h q
def aAsgW (is : List Nat) (a : AE) : ASt := fun D s => a s fun r s1 => toW r s1 fun w s2 => match w with
  | .tp us => match bindWs is us s2.env with
    | some env' => D.nx ⟨env', s2.st⟩
    | none => False
  | _ => False
theorem RS.asgW {te : TE} {a : AE} {is : List Nat} {n : Nat} (ha : RE Z te a) (hn : n = is.length) : RS Z (tAsg te (gTup K n (gNames is))) (aAsgW is a) := fun B hB D A rd F al s σ H X h => by
  refine ha B hB F al s σ H _ _ X h ?_
  intro r s1 F1 al1 H1 v1 x1 X1 rv1 h1
  obtain ⟨F2, al2, w, s2, x2, X2, wv, h2⟩ := toW_ok X1 rv1 h1
  cases w <;> first | exact h2.elim | skip
  rename_i us
  simp only at h2
  split at h2
  · rename_i env' z
    obtain ⟨a, vs, rfl, ea, p⟩ := wv
    refine ⟨a, vs, rfl, SqT.of (X2.sm _ _ ea), by rw [← Paired.len p, hn]; exact bindWs_len z, names_ok X2 p z fun σ' X3 => rd.nx F2 al2 _ σ' H1 X3 h2⟩
  · exact h2.elim
def aDead : ASt := fun _ _ => False
theorem RS.deadD : RS Z (fun _ _ _ => False) aDead := fun B hB D A rd F al s σ H X h => h.elim
/-- len of a text -/
def bLenS : List D → (D → Prop) → Prop := fun ds A => match ds with
  | [.str z] => z.length ≤ sizeLine ∧ A (.int z.length)
  | _ => False
theorem bLenS_ok : OB (fun xs H Q => ∃ z, xs = [V.str z] ∧ z.length ≤ sizeLine ∧ Q (.int z.length) H) bLenS := fun F H vs ds Q A sm tv h q => by
  unfold bLenS at h
  split at h
  · cases tv with | cons t1 t => ?_
    cases t
    exact ⟨_, by rw [t1.strE], h.1, q _ _ (.int _) h.2⟩
  · exact h.elim
end
theorem cr_xdictK {X : Cx} (K : PySem.W.Frag) (hK : X.K = K) (hw : X.w = Wd.w) (hc : X.calm = true) (hu : X.A.units + 64 < cLine) : CallR X (.type "dict") (rXDict K) := by
  subst hK
  exact cr_xdict hw hc hu
theorem cr_xsortK {X : Cx} (K : PySem.W.Frag) (hK : X.K = K) (hc : X.calm = true) (hu : X.A.units + 64 < cLine) : CallR X (.builtin "sorted") (rXSort K) := by
  subst hK
  exact cr_xsort hc hu
theorem okKwo {P : Program} {w : World} {K : PySem.W.Frag} {mg : Str → Option Value} {base : Heap} {x qual : Str} {params : Arguments} {body : List Stmt} {scope : Scope} {dvs : List V} {kws : List (Str × V)} {f : Addr} {fd : FuncData} {N ps : List Str} {k : Nat} {sp : Sp} (F : FunD K x qual params body scope dvs kws f fd) (S : FnScope N ps scope) (len : ∀ vs H Q E, sp vs H Q E → vs.length = ps.length)
    (hbody : ∀ (cdv : Value) (A : Around) (outer : List Env) (s : Shared) (H : Hp) (vs : List V) (Q : VK) (E : XK), Room k (A.deeper (envOfC qual scope s.heap.objs.size f cdv)) → sp vs H Q E →
      ∃ t, PSs (cxOf CX0 P w K mg base N qual scope f cdv A outer s H E).nox body t ∧ t { nx := fun _ H' => Q .non H', rt := Q } (start N vs) H) : FnOk P w K mg base CX0 (k + 1) f fd ps sp :=
  F.ok S len fun cdv A outer s H vs Q E hr h => let ⟨t, h1, q⟩ := hbody cdv A outer s H vs Q E hr h; ⟨t, h1.nox, q⟩
theorem eqI2 : eqD (.int ((0 + 1 + 1 : Nat) : Int)) (.int 2) = true := rfl
theorem eqI3 : eqD (.int ((0 + 1 + 1 + 1 : Nat) : Int)) (.int 3) = true := rfl
end Zi

set_option Elab.async false
set_option linter.all false
set_option maxRecDepth 100000
set_option maxHeartbeats 1000000
/-! K06M: exchanges, strangers, the same histories, the first order of one: plain Lean. -/
namespace K06
open PySem PySem.Spec PyProof.Rows L2 Zi
variable [Zi.Wd]
open PySem.W (minD dataLt alike alikeAll keyToks keyToksAll)
abbrev Exch := Str × Str × Str
def exD (e : Exch) : D := .tup [.str e.1, .str e.2.1, .str e.2.2]
def hasH (h : Str) (e : Exch) : Bool := e.1 == h || e.2.1 == h
def apart (a b : Exch) : Bool := !hasH a.1 b && !hasH a.2.1 b
def viewM (h : Str) (es : List Exch) : List Exch := es.filter (hasH h)
def SameV (a b : List Exch) : Prop := ∀ h, viewM h a = viewM h b
theorem SameV.refl (a : List Exch) : SameV a a := fun _ => rfl
theorem SameV.symm {a b : List Exch} (x : SameV a b) : SameV b a := fun h => (x h).symm
theorem SameV.trans {a b c : List Exch} (x : SameV a b) (y : SameV b c) : SameV a c := fun h => (x h).trans (y h)
theorem apart_iff {a b : Exch} : apart a b = true ↔ ∀ h, hasH h a = true → hasH h b = false := by
  unfold apart hasH
  simp only [Bool.and_eq_true, Bool.not_eq_true', Bool.or_eq_false_iff, Bool.or_eq_true, beq_iff_eq, beq_eq_false_iff_ne]
  constructor
  · rintro ⟨⟨h1, h2⟩, h3, h4⟩ h (rfl | rfl)
    · exact ⟨h1, h2⟩
    · exact ⟨h3, h4⟩
  · intro k
    exact ⟨k _ (.inl rfl), k _ (.inr rfl)⟩
theorem apart_comm (a b : Exch) : apart a b = apart b a := by
  have : ∀ a b, apart a b = true → apart b a = true := fun a b x => apart_iff.mpr fun h hb => by
    cases z : hasH h a with
    | false => rfl
    | true => have := apart_iff.mp x h z; rw [hb] at this; cases this
  cases x : apart a b with
  | true => exact (this a b x).symm
  | false =>
    cases y : apart b a with
    | false => rfl
    | true => rw [this b a y] at x; cases x
theorem apart_self (a : Exch) : apart a a = false := by
  unfold apart hasH
  simp
/-- by exchanging strangers that stand beside one another -/
inductive Reach : List Exch → List Exch → Prop
  | refl (a : List Exch) : Reach a a
  | step {a p q : List Exch} {x y : Exch} : Reach a (p ++ x :: y :: q) → apart x y = true → Reach a (p ++ y :: x :: q)
theorem Reach.trans {a b c : List Exch} (x : Reach a b) (y : Reach b c) : Reach a c := by
  induction y with
  | refl => exact x
  | step _ h ih => exact .step ih h
theorem Reach.cons {a b : List Exch} (e : Exch) (x : Reach a b) : Reach (e :: a) (e :: b) := by
  induction x with
  | refl => exact .refl _
  | step _ h ih => exact .step (p := e :: _) ih h
theorem view_app (h : Str) (a b : List Exch) : viewM h (a ++ b) = viewM h a ++ viewM h b := List.filter_append ..
theorem Reach.same {a b : List Exch} (x : Reach a b) : SameV a b := by
  induction x with
  | refl => exact SameV.refl _
  | step _ h ih =>
    rename_i p q x y _
    refine ih.trans fun k => ?_
    rw [view_app, view_app]
    congr 1
    unfold viewM
    rw [List.filter_cons, List.filter_cons, List.filter_cons, List.filter_cons]
    cases hx : hasH k x with
    | false => rfl
    | true => rw [apart_iff.mp h k hx]; rfl
/-- e may go to the front -/
theorem Reach.front : ∀ {b1 b2 : List Exch} {e : Exch}, (∀ x ∈ b1, apart x e = true) → Reach (b1 ++ e :: b2) (e :: (b1 ++ b2))
  | [], b2, e, _ => .refl _
  | x :: b1, b2, e, h => by
    have ih := Reach.front (b1 := b1) (b2 := b2) (e := e) fun y hy => h y (List.mem_cons_of_mem _ hy)
    exact .step (p := []) (ih.cons x) (h x List.mem_cons_self)
theorem Reach.back : ∀ {b1 b2 : List Exch} {e : Exch}, (∀ x ∈ b1, apart x e = true) → Reach (e :: (b1 ++ b2)) (b1 ++ e :: b2)
  | [], b2, e, _ => .refl _
  | x :: b1, b2, e, h => by
    have ih := Reach.back (b1 := b1) (b2 := b2) (e := e) fun y hy => h y (List.mem_cons_of_mem _ hy)
    have s : Reach (e :: x :: (b1 ++ b2)) (x :: e :: (b1 ++ b2)) := .step (p := []) (.refl _) (by rw [apart_comm]; exact h x List.mem_cons_self)
    exact s.trans (ih.cons x)
theorem filter_head {p : Exch → Bool} {e : Exch} : ∀ {b l : List Exch}, b.filter p = e :: l → ∃ b1 b2, b = b1 ++ e :: b2 ∧ (∀ x ∈ b1, p x = false) ∧ p e = true
  | [], _, h => by simp at h
  | x :: b, l, h => by
    rw [List.filter_cons] at h
    by_cases z : p x = true
    · rw [if_pos z] at h
      injection h with h1 h2
      subst h1
      exact ⟨[], b, rfl, by simp, z⟩
    · rw [if_neg z] at h
      obtain ⟨b1, b2, rfl, h1, h2⟩ := filter_head h
      refine ⟨x :: b1, b2, rfl, ?_, h2⟩
      intro y hy
      rcases List.mem_cons.mp hy with rfl | hy
      · simpa using z
      · exact h1 y hy
/-- what comes first in one is free in the other -/
theorem SameV.first {e : Exch} {a b : List Exch} (x : SameV (e :: a) b) : ∃ b1 b2, b = b1 ++ e :: b2 ∧ ∀ y ∈ b1, apart y e = true := by
  have hv : ∀ h, hasH h e = true → ∃ b1 b2, b = b1 ++ e :: b2 ∧ (∀ y ∈ b1, hasH h y = false) := fun h he => by
    have := x h
    unfold viewM at this
    rw [List.filter_cons, if_pos he] at this
    obtain ⟨b1, b2, h1, h2, _⟩ := filter_head this.symm
    exact ⟨b1, b2, h1, h2⟩
  obtain ⟨p1, p2, e1, h1⟩ := hv e.1 (by unfold hasH; simp)
  obtain ⟨q1, q2, e2, h2⟩ := hv e.2.1 (by unfold hasH; simp)
  have le1 : p1.length ≤ q1.length := by
    by_cases z : p1.length ≤ q1.length
    · exact z
    · have : e ∈ p1 := by
        have g : b[q1.length]? = some e := by rw [e2]; simp
        rw [e1, List.getElem?_append_left (by omega)] at g
        exact List.mem_of_getElem? g
      have := h1 e this
      unfold hasH at this
      simp at this
  have le2 : q1.length ≤ p1.length := by
    by_cases z : q1.length ≤ p1.length
    · exact z
    · have : e ∈ q1 := by
        have g : b[p1.length]? = some e := by rw [e1]; simp
        rw [e2, List.getElem?_append_left (by omega)] at g
        exact List.mem_of_getElem? g
      have := h2 e this
      unfold hasH at this
      simp at this
  have pq : p1 = q1 := (List.append_inj (e1.symm.trans e2) (by omega)).1
  refine ⟨p1, p2, e1, fun y hy => ?_⟩
  rw [apart_comm]
  unfold apart
  rw [h1 y hy, h2 y (by rw [← pq]; exact hy)]
  rfl
theorem SameV.tail {e : Exch} {a b1 b2 : List Exch} (x : SameV (e :: a) (b1 ++ e :: b2)) (h : ∀ y ∈ b1, apart y e = true) : SameV a (b1 ++ b2) := fun k => by
  have := x.trans (Reach.front h).same k
  unfold viewM at this ⊢
  rw [List.filter_cons, List.filter_cons] at this
  by_cases z : hasH k e = true
  · rw [if_pos z, if_pos z] at this
    injection this
  · rw [if_neg z, if_neg z] at this
    exact this
theorem SameV.reach : ∀ {a b : List Exch}, SameV a b → Reach a b
  | [], b, x => by
    cases b with
    | nil => exact .refl _
    | cons e b =>
      have := x e.1
      unfold viewM at this
      rw [List.filter_cons, if_pos (by unfold hasH; simp)] at this
      cases this
  | e :: a, b, x => by
    obtain ⟨b1, b2, rfl, h⟩ := x.first
    exact ((SameV.reach (x.tail h)).cons e).trans (Reach.back h)
/-! ### the order -/
def pE (e : Exch) : PyData := py (exD e)
def lt (a b : Exch) : Bool := dataLt (pE a) (pE b)
def pL (es : List Exch) : PyData := .list (es.map pE)
def llt (a b : List Exch) : Bool := dataLt (pL a) (pL b)
theorem pE_eqv (a b : Exch) : PyData.eqv (pE a) (pE b) = decide (a = b) := by
  obtain ⟨a1, a2, a3⟩ := a
  obtain ⟨b1, b2, b3⟩ := b
  have e : PyData.eqv (pE (a1, a2, a3)) (pE (b1, b2, b3)) = (PyData.eqv (.str a1) (.str b1) && (PyData.eqv (.str a2) (.str b2) && (PyData.eqv (.str a3) (.str b3) && true))) := by simp only [pE, exD, py, pyAll, PyData.eqv, PyData.eqvAll]
  rw [e, Ly.eqv_str, Ly.eqv_str, Ly.eqv_str, Bool.and_true, ← Bool.decide_and, ← Bool.decide_and]
  exact decide_eq_decide.mpr (by simp only [Prod.mk.injEq])
theorem pE_alike (a b : Exch) : alike (pE a) (pE b) = true := rfl
theorem pL_alike : ∀ a b : List Exch, alikeAll (a.map pE) (b.map pE) = true
  | [], [] => rfl
  | [], _ :: _ => rfl
  | _ :: _, [] => rfl
  | x :: a, y :: b => by
    show (alike (pE x) (pE y) && alikeAll (a.map pE) (b.map pE)) = true
    rw [pE_alike, pL_alike a b]; rfl
theorem llt_cons (x y : Exch) (a b : List Exch) : llt (x :: a) (y :: b) = if x = y then llt a b else lt x y := by
  unfold llt pL
  rw [PySem.W.dataLt_list, PySem.W.dataLt_list, List.map_cons, List.map_cons]
  by_cases h : x = y
  · rw [if_pos h, PySem.W.dataLt_all_yes (pE_alike x y) (by rw [pE_eqv]; exact decide_eq_true h)]
  · rw [if_neg h, PySem.W.dataLt_all_no (pE_alike x y) (by rw [pE_eqv]; exact decide_eq_false h)]; rfl
theorem lt_irrefl (a : Exch) : lt a a = false := lex_irrefl _
theorem lt_total {a b : Exch} (h1 : lt a b = false) (h2 : lt b a = false) : a = b := by
  have e := lex_total _ _ h1 h2
  by_cases z : a = b
  · exact z
  · have q := (PySem.W.toks_eqv (pE a) (pE b) (pE_alike a b)).2 (by rw [pE_eqv]; exact decide_eq_false z) [] [Sum.inl 0]
    rw [e, PySem.W.lex_pre, lex_irrefl] at q
    cases q
theorem llt_irrefl (a : List Exch) : llt a a = false := lex_irrefl _
theorem llt_trans {a b c : List Exch} (h1 : llt a b = true) (h2 : llt b c = true) : llt a c = true := lex_trans _ _ _ h1 h2
/-! ### the first order -/
def FreeAt (r : List Exch) (k : Nat) (e : Exch) : Prop := r[k]? = some e ∧ ∀ x ∈ r.take k, apart x e = true
inductive Greedy : List Exch → List Exch → Prop
  | nil : Greedy [] []
  | cons {r o : List Exch} {k : Nat} {e : Exch} : FreeAt r k e → (∀ k' e', FreeAt r k' e' → lt e' e = false) → Greedy (r.eraseIdx k) o → Greedy r (e :: o)
theorem FreeAt.split {r : List Exch} {k : Nat} {e : Exch} (h : FreeAt r k e) : r = r.take k ++ e :: r.drop (k + 1) ∧ r.eraseIdx k = r.take k ++ r.drop (k + 1) := by
  obtain ⟨hl, he⟩ := List.getElem?_eq_some_iff.mp h.1
  refine ⟨?_, List.eraseIdx_eq_take_drop_succ ..⟩
  rw [← he, ← List.drop_eq_getElem_cons hl, List.take_append_drop]
theorem Greedy.same {r o : List Exch} (g : Greedy r o) : SameV r o := by
  induction g with
  | nil => exact SameV.refl _
  | cons f m g ih =>
    rename_i r o k e
    obtain ⟨h1, h2⟩ := f.split
    have s1 : SameV r (e :: (r.take k ++ r.drop (k + 1))) := by
      have := (Reach.front (b1 := r.take k) (b2 := r.drop (k + 1)) f.2).same
      rw [← h1] at this
      exact this
    refine s1.trans fun h => ?_
    have := ih h
    rw [h2] at this
    unfold viewM at this ⊢
    rw [List.filter_cons, List.filter_cons, this]
theorem Greedy.least {r o : List Exch} (g : Greedy r o) : ∀ c, SameV r c → c = o ∨ llt o c = true := by
  induction g with
  | nil =>
    intro c x
    have := SameV.reach x
    cases c with
    | nil => exact .inl rfl
    | cons e c =>
      have := x e.1
      unfold viewM at this
      rw [List.filter_cons, if_pos (by unfold hasH; simp)] at this
      cases this
  | cons f m g ih =>
    rename_i r o k e
    intro c x
    cases c with
    | nil =>
      have := x e.1
      unfold viewM at this
      have hm : e ∈ r.filter (hasH e.1) := List.mem_filter.mpr ⟨List.mem_of_getElem? f.1, by unfold hasH; simp⟩
      rw [this] at hm; cases hm
    | cons y c =>
      obtain ⟨b1, b2, e1, h1⟩ := x.symm.first
      have fy : FreeAt r b1.length y := by
        refine ⟨by rw [e1]; simp, ?_⟩
        rw [e1, List.take_left]
        exact h1
      by_cases z : y = e
      · subst z
        have hk : b1.length = k := by
          have lt1 : ¬ b1.length < k := fun hlt => by
            have := f.2 y (by
              have g1 := fy.1
              rw [← List.getElem?_take_of_lt hlt] at g1
              exact List.mem_of_getElem? g1)
            rw [apart_self] at this; cases this
          have lt2 : ¬ k < b1.length := fun hlt => by
            have := fy.2 y (by
              have g1 := f.1
              rw [← List.getElem?_take_of_lt hlt] at g1
              exact List.mem_of_getElem? g1)
            rw [apart_self] at this; cases this
          omega
        have er : r.eraseIdx k = b1 ++ b2 := by
          rw [← hk, e1, List.eraseIdx_append_of_length_le (Nat.le_refl _)]
          simp
        have sx : SameV (r.eraseIdx k) c := by
          rw [er]
          rw [e1] at x
          exact (x.symm.tail h1).symm
        rcases ih c sx with q | q
        · exact .inl (by rw [q])
        · refine .inr ?_
          rw [llt_cons, if_pos rfl]; exact q
      · refine .inr ?_
        rw [llt_cons, if_neg (fun q => z q.symm)]
        cases q : lt e y with
        | true => rfl
        | false => exact (z (lt_total (m _ _ fy) q)).elim
theorem Greedy.uniq {r r' o o' : List Exch} (g : Greedy r o) (g' : Greedy r' o') (x : SameV r r') : o = o' := by
  rcases g.least o' (x.trans g'.same) with h | h
  · exact h.symm
  · rcases g'.least o (x.symm.trans g.same) with h' | h'
    · exact h'
    · have := llt_trans h h'
      rw [llt_irrefl] at this; cases this
theorem map_erase {α β : Type} {f : α → β} : ∀ {xs : List α} {i : Nat}, (xs.eraseIdx i).map f = (xs.map f).eraseIdx i
  | [], _ => rfl
  | _ :: _, 0 => rfl
  | x :: xs, i + 1 => by rw [List.map_cons, List.eraseIdx_cons_succ, List.eraseIdx_cons_succ, List.map_cons, map_erase]
theorem zip_at {α : Type} {xs : List α} {pre ys : List (α × Nat)} {x : α} {i : Nat} (h : xs.zipIdx = pre ++ (x, i) :: ys) : i = pre.length ∧ xs[i]? = some x ∧ xs.take i = pre.map (·.1) := by
  have e1 : (xs.zipIdx)[pre.length]? = some (x, i) := by rw [h]; simp
  rw [List.getElem?_zipIdx] at e1
  have e2 : xs = pre.map (·.1) ++ x :: ys.map (·.1) := by
    have : xs.zipIdx.map (·.1) = xs := by simp
    rw [← this, h]
    simp
  have e3 : i = pre.length := by
    cases z : xs[pre.length]? with
    | none => rw [z] at e1; cases e1
    | some y => rw [z] at e1; simp at e1; exact e1.2.symm
  refine ⟨e3, ?_, ?_⟩
  · rw [e3, e2]; simp
  · rw [e3, e2]; simp
theorem free_iff {rest : List Exch} {pre ys : List (Exch × Nat)} {x : Exch} {i : Nat} (h : rest.zipIdx = pre ++ (x, i) :: ys) : FreeAt rest i x ↔ ¬ (∃ p ∈ pre, hasH x.1 p.1 = true) ∧ ¬ (∃ p ∈ pre, hasH x.2.1 p.1 = true) := by
  obtain ⟨_, h2, h3⟩ := zip_at h
  unfold FreeAt
  rw [h3]
  constructor
  · rintro ⟨_, k⟩
    refine ⟨fun ⟨p, hp, q⟩ => ?_, fun ⟨p, hp, q⟩ => ?_⟩
    · have := k p.1 (List.mem_map.mpr ⟨p, hp, rfl⟩)
      rw [apart_comm] at this
      unfold apart at this
      rw [q] at this; cases this
    · have := k p.1 (List.mem_map.mpr ⟨p, hp, rfl⟩)
      rw [apart_comm] at this
      unfold apart at this
      rw [q, Bool.and_comm] at this; cases this
  · rintro ⟨k1, k2⟩
    refine ⟨h2, fun y hy => ?_⟩
    obtain ⟨p, hp, rfl⟩ := List.mem_map.mp hy
    rw [apart_comm]
    unfold apart
    rw [Bool.eq_false_iff.mpr fun z => k1 ⟨p, hp, z⟩, Bool.eq_false_iff.mpr fun z => k2 ⟨p, hp, z⟩]; rfl
/-! ### the least of pairs -/
def pairD (p : Exch × Nat) : D := .tup [exD p.1, .int (p.2 : Int)]
theorem pair_alike (p q : Exch × Nat) : alike (py (pairD p)) (py (pairD q)) = true := rfl
theorem pair_eqv (p q : Exch × Nat) : PyData.eqv (py (pairD p)) (py (pairD q)) = decide (p = q) := by
  obtain ⟨a, i⟩ := p
  obtain ⟨b, j⟩ := q
  have e : PyData.eqv (py (pairD (a, i))) (py (pairD (b, j))) = (PyData.eqv (pE a) (pE b) && (PyData.eqv (.int i) (.int j) && true)) := by simp only [pairD, py, pyAll, PyData.eqv, PyData.eqvAll, pE]
  rw [e, pE_eqv, Bool.and_true]
  have : PyData.eqv (.int (i : Int)) (.int (j : Int)) = decide (i = j) := by
    simp only [PyData.eqv]
    by_cases h : i = j
    · subst h; simp
    · rw [decide_eq_false h]
      exact beq_eq_false_iff_ne.mpr (by omega)
  rw [this, ← Bool.decide_and]
  exact decide_eq_decide.mpr (by simp only [Prod.mk.injEq])
theorem pair_lt {p q : Exch × Nat} (h : dataLt (py (pairD p)) (py (pairD q)) = false) : lt p.1 q.1 = false := by
  obtain ⟨a, i⟩ := p
  obtain ⟨b, j⟩ := q
  by_cases e : a = b
  · subst e; exact lt_irrefl _
  · have := PySem.W.dataLt_pair (x := pE a) (x' := pE b) (y := .int i) (y' := .int j) (pE_alike a b) rfl
    rw [pE_eqv, decide_eq_false e] at this
    have h2 : dataLt (.tuple [pE a, .int i]) (.tuple [pE b, .int j]) = false := h
    rw [h2] at this
    exact this.symm
theorem pairs_min {p0 : Exch × Nat} {ps : List (Exch × Nat)} {m : Exch × Nat} (h : py (pairD m) = minD (py (pairD p0)) (ps.map fun p => py (pairD p))) : ∀ p ∈ p0 :: ps, lt p.1 m.1 = false := fun p hp => by
  refine pair_lt ?_
  rw [h]
  refine minD_le _ _ _ ?_
  rcases List.mem_cons.mp hp with rfl | hp
  · exact .inl rfl
  · exact .inr (List.mem_map.mpr ⟨p, hp, rfl⟩)
theorem pairs_ok {ps : List (Exch × Nat)} : PyData.plainAll (ps.map fun p => py (pairD p)) = true ∧ PySem.W.AlikeAll (ps.map fun p => py (pairD p)) ∧ PyData.depthAll (ps.map fun p => py (pairD p)) ≤ 60 := by
  refine ⟨?_, ⟨fun x hx y hy => ?_, fun x hx => ?_⟩, ?_⟩
  · induction ps with
    | nil => rfl
    | cons p ps ih => rw [List.map_cons, PyData.plainAll, ih]; rfl
  · obtain ⟨p, _, rfl⟩ := List.mem_map.mp hx
    obtain ⟨q, _, rfl⟩ := List.mem_map.mp hy
    exact pair_alike p q
  · obtain ⟨p, _, rfl⟩ := List.mem_map.mp hx
    exact fun z => nomatch z
  · have : ∀ ps : List (Exch × Nat), PyData.depthAll (ps.map fun p => py (pairD p)) ≤ 2 := fun ps => by
      induction ps with
      | nil => exact Nat.zero_le _
      | cons p ps ih =>
        rw [List.map_cons, PyData.depthAll]
        exact Nat.max_le.mpr ⟨by show (2 : Nat) ≤ 2; exact Nat.le_refl _, ih⟩
    exact Nat.le_trans (this ps) (by decide)
theorem pyAll_pairs (ps : List (Exch × Nat)) : pyAll (ps.map pairD) = ps.map fun p => py (pairD p) := by rw [pyAll_map, List.map_map]; rfl
end K06

set_option Elab.async false
set_option linter.all false
set_option maxRecDepth 100000
set_option maxHeartbeats 1000000
/-! K13M: tables of machines, as data and plainly. -/
namespace K13
open PySem PySem.Spec PyProof.Rows L2 Zi K06
open PySem.W (minD AlikeAll)
variable [Zi.Wd]
/-! ### dicts by their entries -/
section
variable {κ β : Type} [DecidableEq κ]
def lookA : List (κ × β) → κ → Option β
  | [], _ => none
  | x :: xs, k => if x.1 = k then some x.2 else lookA xs k
def putA (xs : List (κ × β)) (k : κ) (v : β) : List (κ × β) := if (xs.any fun x => decide (x.1 = k)) = true then xs.map (fun x => if x.1 = k then (x.1, v) else x) else xs ++ [(k, v)]
theorem lookA_none {xs : List (κ × β)} {k : κ} : lookA xs k = none ↔ k ∉ xs.map (·.1) := by
  induction xs with
  | nil => simp [lookA]
  | cons x xs ih =>
    unfold lookA
    by_cases h : x.1 = k
    · simp [h]
    · rw [if_neg h, ih]
      simp only [List.map_cons, List.mem_cons, not_or]
      exact ⟨fun z => ⟨fun y => h y.symm, z⟩, fun z => z.2⟩
theorem lookA_mem {xs : List (κ × β)} {k : κ} {v : β} (h : lookA xs k = some v) : (k, v) ∈ xs := by
  induction xs with
  | nil => cases h
  | cons x xs ih =>
    unfold lookA at h
    by_cases e : x.1 = k
    · rw [if_pos e] at h; cases h; rw [← e]; exact List.mem_cons_self
    · rw [if_neg e] at h; exact List.mem_cons_of_mem _ (ih h)
theorem lookA_of {xs : List (κ × β)} {k : κ} {v : β} (nd : (xs.map (·.1)).Nodup) (h : (k, v) ∈ xs) : lookA xs k = some v := by
  induction xs with
  | nil => cases h
  | cons x xs ih =>
    rw [List.map_cons, List.nodup_cons] at nd
    unfold lookA
    rcases List.mem_cons.mp h with rfl | h
    · rw [if_pos rfl]
    · rw [if_neg (fun e => nd.1 (by rw [e]; exact List.mem_map.mpr ⟨_, h, rfl⟩)), ih nd.2 h]
theorem putA_new {xs : List (κ × β)} {k : κ} {v : β} (h : k ∉ xs.map (·.1)) : putA xs k v = xs ++ [(k, v)] := by
  unfold putA
  rw [if_neg]
  intro z
  obtain ⟨x, hx, e⟩ := List.any_eq_true.mp z
  exact h (List.mem_map.mpr ⟨x, hx, of_decide_eq_true e⟩)
structure KM (t : Bool) (kd : κ → D) (kn : κ → NestedKey) : Prop where
  kx : ∀ k, keyX t (kd k) = some (kn k)
  inj : ∀ a b, kn a = kn b → a = b
variable {t : Bool} {kd : κ → D} {kn : κ → NestedKey} {vd : β → D}
def dP (kd : κ → D) (vd : β → D) (xs : List (κ × β)) : List (D × D) := xs.map fun x => (kd x.1, vd x.2)
def ditP (t : Bool) (kd : κ → D) (vd : β → D) (xs : List (κ × β)) : D := .dit t ((dP kd vd xs).map (·.1)) ((dP kd vd xs).map (·.2))
theorem dlook_dP (M : KM t kd kn) (k : κ) : ∀ xs : List (κ × β), dlook ((dP kd vd xs).map (·.1)) ((dP kd vd xs).map (·.2)) (kn k) = (lookA xs k).map vd
  | [] => rfl
  | x :: xs => by
    show (if nk (kd x.1) = some (kn k) then some (vd x.2) else dlook ((dP kd vd xs).map (·.1)) ((dP kd vd xs).map (·.2)) (kn k)) = _
    rw [keyX_nk (M.kx x.1)]
    unfold lookA
    by_cases h : x.1 = k
    · rw [if_pos h, if_pos (by rw [h])]; rfl
    · rw [if_neg h, if_neg (fun e => h (M.inj _ _ (Option.some.inj e))), dlook_dP M k xs]
theorem putD_dP (M : KM t kd kn) (k : κ) (v : β) (xs : List (κ × β)) : putD (dP kd vd xs) (kn k) (kd k) (vd v) = dP kd vd (putA xs k v) := by
  have e1 : ∀ x : κ × β, (nk (kd x.1) = some (kn k)) ↔ x.1 = k := fun x => by
    rw [keyX_nk (M.kx x.1)]
    exact ⟨fun e => M.inj _ _ (Option.some.inj e), fun e => by rw [e]⟩
  have e2 : ((dP kd vd xs).any fun kv => decide (nk kv.1 = some (kn k))) = xs.any fun x => decide (x.1 = k) := by
    unfold dP
    rw [List.any_map]
    congr 1
    funext x
    exact decide_eq_decide.mpr (e1 x)
  unfold putD putA
  rw [e2]
  split
  · unfold dP
    rw [List.map_map, List.map_map]
    refine List.map_congr_left fun x _ => ?_
    show (if nk (kd x.1) = some (kn k) then (kd x.1, vd v) else (kd x.1, vd x.2)) = _
    by_cases h : x.1 = k
    · rw [if_pos ((e1 x).mpr h)]
      show _ = (kd (if x.1 = k then (x.1, v) else x).1, vd (if x.1 = k then (x.1, v) else x).2)
      rw [if_pos h]
    · rw [if_neg fun z => h ((e1 x).mp z)]
      show _ = (kd (if x.1 = k then (x.1, v) else x).1, vd (if x.1 = k then (x.1, v) else x).2)
      rw [if_neg h]
  · unfold dP
    rw [List.map_append]; rfl
theorem dP_len (xs : List (κ × β)) : (dP kd vd xs).length = xs.length := List.length_map ..
theorem dP_keys (xs : List (κ × β)) : (dP kd vd xs).map (·.1) = (xs.map (·.1)).map kd := by unfold dP; rw [List.map_map, List.map_map]; rfl
theorem dP_vals (xs : List (κ × β)) : (dP kd vd xs).map (·.2) = (xs.map (·.2)).map vd := by unfold dP; rw [List.map_map, List.map_map]; rfl
end
/-! ### keys -/
abbrev natD (n : Nat) : D := .int (n : Int)
def kE (e : Exch) : NestedKey := .tup [.text e.1, .text e.2.1, .text e.2.2]
theorem key_ex (e : Exch) : keyX true (exD e) = some (kE e) := by
  unfold exD keyX
  simp only [nkAll, nk]
  rw [if_pos (by show (1 : Nat) ≤ 8; decide)]
  rfl
theorem km_ex : KM true exD kE := ⟨key_ex, fun a b h => by
  unfold kE at h
  injection h with h
  injection h with h1 h
  injection h with h2 h
  injection h with h3 h
  injection h1 with h1
  injection h2 with h2
  injection h3 with h3
  exact Prod.ext h1 (Prod.ext h2 h3)⟩
def kN (n : Nat) : NestedKey := .num (n : Int)
theorem km_nat : KM false natD kN := ⟨fun _ => rfl, fun a b h => by unfold kN at h; injection h with h; exact Int.ofNat_inj.mp h⟩
/-! ### tables -/
abbrev Way := Exch × Nat
abbrev Row := Bool × List Way
abbrev Tab := List Row
def waysD (ws : List Way) : D := ditP true exD natD ws
def rowD (r : Row) : D := .tup [.bl r.1, waysD r.2]
def tabD (t : Tab) : D := .lst (t.map rowD)
def wayL (w : Way) : D := .tup [exD w.1, natD w.2]
def rowL (r : Row) : D := .tup [.bl r.1, .lst (r.2.map wayL)]
def tabL (t : Tab) : D := .lst (t.map rowL)
/-- exchanges in order -/
def sortE (es : List Exch) : List Exch := es.mergeSort fun a b => PySem.W.dataLe false py (exD a) (exD b)
theorem sortD_ex (es : List Exch) : Zi.sortD (es.map exD) = (sortE es).map exD :=
  (List.map_mergeSort (f := exD) (r := fun a b => PySem.W.dataLe false py (exD a) (exD b)) (s := PySem.W.dataLe false py) (l := es) (fun a _ b _ => rfl)).symm
theorem sortE_perm (es : List Exch) : (sortE es).Perm es := List.mergeSort_perm _ _
def keys (ws : List Way) : List Exch := ws.map (·.1)
/-- ways in order -/
def wsS (ws : List Way) : List Way := (sortE (keys ws)).map fun e => (e, (lookA ws e).getD 0)
theorem wsS_perm {ws : List Way} (nd : (keys ws).Nodup) : (wsS ws).Perm ws := by
  have p := (sortE_perm (keys ws)).map fun e => (e, (lookA ws e).getD 0)
  refine p.trans (List.Perm.of_eq ?_)
  unfold keys
  rw [List.map_map]
  refine (List.map_congr_left fun w hw => ?_).trans (List.map_id _)
  show (w.1, (lookA ws w.1).getD 0) = w
  rw [lookA_of nd (show (w.1, w.2) ∈ ws from hw)]
  rfl
structure TabOk (t : Tab) : Prop where
  pos : 0 < t.length
  few : t.length ≤ 400
  nd : ∀ r ∈ t, (keys r.2).Nodup
  lt : ∀ r ∈ t, ∀ w ∈ r.2, w.2 < t.length
  ws : ∀ r ∈ t, r.2.length ≤ 1000
def row (t : Tab) (s : Nat) : Row := t.getD s (false, [])
theorem row_at {t : Tab} {s : Nat} (h : s < t.length) : t[s]? = some (row t s) := by
  unfold row
  rw [List.getD_eq_getElem?_getD, List.getElem?_eq_getElem h]; rfl
theorem row_mem {t : Tab} {s : Nat} (h : s < t.length) : row t s ∈ t := List.mem_of_getElem? (row_at h)
/-! ### states that are come to -/
def add1 (acc : List Nat) (m : Nat) : List Nat := if m ∈ acc then acc else acc ++ [m]
def stepR (t : Tab) (acc : List Nat) (s : Nat) : List Nat := (wsS (row t s).2).foldl (fun a w => add1 a w.2) acc
def reachN (t : Tab) : Nat → List Nat
  | 0 => [0]
  | k + 1 => match (reachN t k)[k]? with
    | some s => stepR t (reachN t k) s
    | none => reachN t k
def reachF (t : Tab) : List Nat := reachN t t.length
def renumF (t : Tab) : Tab := (reachF t).map fun s => ((row t s).1, (wsS (row t s).2).map fun w => (w.1, (reachF t).idxOf w.2))
/-! ### classes -/
abbrev CK := Nat × List Way
def ckD (k : CK) : D := .tup [natD k.1, .tup (k.2.map wayL)]
def kC (k : CK) : NestedKey := .tup [.num (k.1 : Int), .tup (k.2.map fun w => .tup [kE w.1, .num (w.2 : Int)])]
def ckOf (t : Tab) (c : List Nat) (i : Nat) : CK := (c.getD i 0, (wsS (row t i).2).map fun w => (w.1, c.getD w.2 0))
def dedupC (ks : List CK) : List CK := ks.foldl (fun acc k => if k ∈ acc then acc else acc ++ [k]) []
def cksF (t : Tab) (c : List Nat) : List CK := (List.range t.length).map (ckOf t c)
def stepC (t : Tab) (c : List Nat) : List Nat := (cksF t c).map fun k => (dedupC (cksF t c)).idxOf k
def distN (c : List Nat) : Nat := distinct (c.map fun (n : Nat) => (n : Int))
def classI (t : Tab) : Nat → Nat → List Nat → List Nat
  | 0, _, c => c
  | m + 1, k, c => if k = distN c then c else classI t m (distN c) (stepC t c)
def endsF (t : Tab) : List Nat := t.map fun r => if r.1 then 1 else 0
def classF (t : Tab) : List Nat := classI t (t.length + 1) 0 (endsF t)
/-! ### one of each class -/
def mergedF (t : Tab) (c : List Nat) : List (Nat × Row) := (List.range t.length).foldl (fun acc i => if c.getD i 0 ∈ acc.map (·.1) then acc else acc ++ [(c.getD i 0, ((row t i).1, (row t i).2.map fun w => (w.1, c.getD w.2 0)))]) []
def orderF (m : List (Nat × Row)) (s : Nat) : List Nat := s :: (m.map (·.1)).filter (· ≠ s)
def placeF (m : List (Nat × Row)) (s : Nat) : Tab := (orderF m s).map fun n => (((lookA m n).getD (false, [])).1, ((lookA m n).getD (false, [])).2.map fun w => (w.1, (orderF m s).idxOf w.2))
def leastF (t : Tab) : Tab := renumF (placeF (mergedF (renumF t) (classF (renumF t))) ((classF (renumF t)).getD 0 0))
/-! ### rewriting -/
theorem q_cellD_dit {t : Bool} {kds : List (D × D)} : cellD (.dit t kds) = some (.dit t (kds.map (·.1)) (kds.map (·.2))) := rfl
theorem q_nToW_dit {t : Bool} {kds : List (D × D)} {s : AS} {k : W → AS → Prop} : nToW (.new (.dit t kds)) s k = k (.d (.dit t (kds.map (·.1)) (kds.map (·.2)))) s := rfl
theorem q_key_int {i : Int} : keyX false (.int i) = some (.num i) := rfl
/-! ### what a machine is made of -/
def signOk (c : Str) : Bool := !(Builtin.Str.occurrences "abcdefghijklmnopqrstuvwxyz" c 0 ("abcdefghijklmnopqrstuvwxyz" : Str).length 1).isEmpty
def nameOk (s : Str) : Prop := 1 ≤ s.length ∧ s.length ≤ 8 ∧ ∀ c ∈ s.cps.toList, signOk ⟨#[c]⟩ = true
structure exOk (e : Exch) : Prop where
  a : nameOk e.1
  b : nameOk e.2.1
  c : nameOk e.2.2
  ne : e.1 ≠ e.2.1
structure RowsOk (t : Tab) : Prop extends TabOk t where
  ex : ∀ r ∈ t, ∀ w ∈ r.2, exOk w.1
  fw : ∀ r ∈ t, r.2.length ≤ 50
theorem blsD_map {α : Type} (f : α → Bool) : ∀ xs : List α, blsD (xs.map fun x => D.bl (f x)) = some (xs.map f)
  | [] => rfl
  | x :: xs => by rw [List.map_cons, List.map_cons]; unfold blsD; rw [blsD_map f xs]; rfl
theorem intsD_map {α : Type} (f : α → Int) : ∀ xs : List α, intsD (xs.map fun x => D.int (f x)) = some (xs.map f)
  | [] => rfl
  | x :: xs => by rw [List.map_cons, List.map_cons]; unfold intsD; rw [intsD_map f xs]; rfl
theorem bAll_map {α : Type} {f : α → Bool} {xs : List α} {A : D → Prop} (h : ∀ x ∈ xs, f x = true) (hA : A (.bl true)) : bAll [.lst (xs.map fun x => D.bl (f x))] A := by
  have e : (xs.map f).all id = true := by rw [List.all_map]; exact List.all_eq_true.mpr fun x hx => h x hx
  simp only [bAll, blsD_map, e]
  exact hA
theorem all_blsD {α : Type} {f : α → Bool} {xs : List α} (k : D → Prop) (h : ∀ x ∈ xs, f x = true) (hA : k (.bl true)) : match blsD (xs.map fun x => D.bl (f x)) with
  | some bs => k (.bl (bs.all id))
  | none => False := by
  have e : (xs.map f).all id = true := by rw [List.all_map]; exact List.all_eq_true.mpr fun x hx => h x hx
  rw [blsD_map]
  show k (.bl ((xs.map f).all id))
  rw [e]
  exact hA
theorem eqD_int (i j : Int) : eqD (.int i) (.int j) = decide (i = j) := by
  show (i == j) = _
  rw [Bool.eq_iff_iff]
  simp
theorem plus_ex {es : List Exch} {e : Exch} (h : e ∉ es) : plusD (es.map exD) (kE e) (exD e) = (e :: es).map exD := by
  unfold plusD
  rw [if_neg]
  · rfl
  · intro z
    obtain ⟨d, hd, e1⟩ := List.any_eq_true.mp z
    obtain ⟨x, hx, rfl⟩ := List.mem_map.mp hd
    have e2 := of_decide_eq_true e1
    rw [keyX_nk (key_ex x)] at e2
    rw [km_ex.inj _ _ (Option.some.inj e2)] at hx
    exact h hx
theorem nodup_few : ∀ {n : Nat} {l : List Nat}, l.Nodup → (∀ x ∈ l, x < n) → l.length ≤ n
  | 0, l, _, h => by
    cases l with
    | nil => exact Nat.le_refl _
    | cons x l => exact absurd (h x List.mem_cons_self) (Nat.not_lt_zero _)
  | n + 1, l, nd, h => by
    by_cases z : n ∈ l
    · have h1 := nodup_few (n := n) (nd.erase n) fun x hx => by
        have := (nd.mem_erase_iff).mp hx
        have := h x this.2
        omega
      rw [List.length_erase_of_mem z] at h1
      omega
    · have := nodup_few (n := n) nd fun x hx => by
        have h1 := h x hx
        have : x ≠ n := fun e => z (e ▸ hx)
        omega
      omega
theorem dlook_some {acc : List Nat} {n : Nat} : ∀ {kds : List (D × D)}, kds.map (·.1) = acc.map natD → (dlook (kds.map (·.1)) (kds.map (·.2)) (.num (n : Int))).isSome = decide (n ∈ acc)
  | [], e => by
    cases acc with
    | nil => rfl
    | cons a acc => cases e
  | kv :: kds, e => by
    cases acc with
    | nil => cases e
    | cons a acc =>
      rw [List.map_cons, List.map_cons] at e
      injection e with e1 e2
      show (if nk kv.1 = some (.num (n : Int)) then some kv.2 else dlook (kds.map (·.1)) (kds.map (·.2)) (.num (n : Int))).isSome = _
      rw [e1]
      show (if some (NestedKey.num (a : Int)) = some (.num (n : Int)) then _ else _ : Option D).isSome = _
      by_cases h : a = n
      · rw [if_pos (by rw [h])]
        simp [h]
      · rw [if_neg (fun z => h (by injection z with z; injection z with z; exact Int.ofNat_inj.mp z)), dlook_some e2]
        simp [Ne.symm h]
theorem putD_keys {acc : List Nat} {n : Nat} {v : D} {kds : List (D × D)} (e : kds.map (·.1) = acc.map natD) (h : n ∉ acc) : (putD kds (.num (n : Int)) (natD n) v).map (·.1) = (acc ++ [n]).map natD := by
  unfold putD
  rw [if_neg]
  · rw [List.map_append, List.map_append, e]; rfl
  · intro z
    obtain ⟨kv, hk, e1⟩ := List.any_eq_true.mp z
    have e2 := of_decide_eq_true e1
    have : kv.1 ∈ acc.map natD := by rw [← e]; exact List.mem_map.mpr ⟨kv, hk, rfl⟩
    obtain ⟨a, ha, e3⟩ := List.mem_map.mp this
    rw [← e3] at e2
    injection e2 with e2
    injection e2 with e2
    rw [Int.ofNat_inj.mp e2] at ha
    exact h ha
theorem add1_ok {n m : Nat} {acc : List Nat} (nd : acc.Nodup) (lt : ∀ s ∈ acc, s < n) (hm : m < n) : (add1 acc m).Nodup ∧ ∀ s ∈ add1 acc m, s < n := by
  unfold add1
  split
  · exact ⟨nd, lt⟩
  · rename_i h
    refine ⟨List.nodup_append.mpr ⟨nd, by simp, fun a ha b hb => ?_⟩, fun s hs => ?_⟩
    · rw [List.mem_singleton.mp hb]
      exact fun e => h (e ▸ ha)
    · rcases List.mem_append.mp hs with hs | hs
      · exact lt s hs
      · rw [List.mem_singleton.mp hs]; exact hm
theorem adds_ok {n : Nat} : ∀ {l : List Way} {acc : List Nat}, acc.Nodup → (∀ s ∈ acc, s < n) → (∀ w ∈ l, w.2 < n) → (l.foldl (fun a w => add1 a w.2) acc).Nodup ∧ ∀ s ∈ l.foldl (fun a w => add1 a w.2) acc, s < n
  | [], _, nd, lt, _ => ⟨nd, lt⟩
  | w :: l, acc, nd, lt, h => by
    obtain ⟨a, b⟩ := add1_ok nd lt (h w List.mem_cons_self)
    exact adds_ok (l := l) (acc := add1 acc w.2) a b fun w hw => h w (List.mem_cons_of_mem _ hw)
theorem TabOk.nds {t : Tab} (T : TabOk t) (s : Nat) : (keys (row t s).2).Nodup := by
  by_cases h : s < t.length
  · exact T.nd _ (row_mem h)
  · have : row t s = (false, []) := by unfold row; rw [List.getD_eq_getElem?_getD, List.getElem?_eq_none (by omega)]; rfl
    rw [this]; exact List.nodup_nil
theorem TabOk.lts {t : Tab} (T : TabOk t) (s : Nat) : ∀ w ∈ (row t s).2, w.2 < t.length := by
  by_cases h : s < t.length
  · exact T.lt _ (row_mem h)
  · have : row t s = (false, []) := by unfold row; rw [List.getD_eq_getElem?_getD, List.getElem?_eq_none (by omega)]; rfl
    rw [this]; intro w hw; cases hw
theorem TabOk.ltS {t : Tab} (T : TabOk t) (s : Nat) : ∀ w ∈ wsS (row t s).2, w.2 < t.length := fun w hw => T.lts s w ((wsS_perm (T.nds s)).mem_iff.mp hw)
theorem reachN_ok {t : Tab} (T : TabOk t) : ∀ k, (reachN t k).Nodup ∧ ∀ s ∈ reachN t k, s < t.length
  | 0 => ⟨by simp [reachN], fun s hs => by rw [List.mem_singleton.mp hs]; exact T.pos⟩
  | k + 1 => by
    unfold reachN
    obtain ⟨a, b⟩ := reachN_ok T k
    split
    · exact adds_ok a b (T.ltS _)
    · exact ⟨a, b⟩
theorem reachN_len {t : Tab} (T : TabOk t) (k : Nat) : (reachN t k).length ≤ t.length := nodup_few (reachN_ok T k).1 (reachN_ok T k).2
theorem reachN_stop {t : Tab} {k : Nat} (h : (reachN t k).length ≤ k) : ∀ j, reachN t (k + j) = reachN t k
  | 0 => rfl
  | j + 1 => by
    have ih := reachN_stop h j
    show (match (reachN t (k + j))[k + j]? with | some s => stepR t (reachN t (k + j)) s | none => reachN t (k + j)) = _
    rw [ih, List.getElem?_eq_none (by omega)]
theorem reachF_eq {t : Tab} (T : TabOk t) {k : Nat} (h : (reachN t k).length ≤ k) (hk : k ≤ t.length) : reachF t = reachN t k := by
  have := reachN_stop h (t.length - k)
  rw [show k + (t.length - k) = t.length by omega] at this
  exact this
theorem adds_keep {m : Nat} : ∀ {l : List Way} {acc : List Nat}, m ∈ acc → m ∈ l.foldl (fun a w => add1 a w.2) acc
  | [], _, h => h
  | w :: l, acc, h => by
    refine adds_keep (l := l) (acc := add1 acc w.2) ?_
    unfold add1
    split
    · exact h
    · exact List.mem_append_left _ h
theorem adds_len : ∀ {l : List Way} {acc : List Nat}, acc.length ≤ (l.foldl (fun a w => add1 a w.2) acc).length
  | [], _ => Nat.le_refl _
  | w :: l, acc => by
    refine Nat.le_trans ?_ (adds_len (l := l) (acc := add1 acc w.2))
    unfold add1
    split
    · exact Nat.le_refl _
    · rw [List.length_append]; omega
/-- sorted(ways) -/
theorem plainAll_ex (es : List Exch) : PyData.plainAll (pyAll (es.map exD)) = true := by
  induction es with
  | nil => rfl
  | cons e es ih => rw [List.map_cons]; simp only [pyAll, PyData.plainAll, ih, Bool.and_true]; rfl
theorem alikeAll_ex (es : List Exch) : PySem.W.AllAlike ((es.map exD).map py) := by
  intro d hd d' hd'
  rw [List.map_map] at hd hd'
  obtain ⟨a, _, rfl⟩ := List.mem_map.mp hd
  obtain ⟨b, _, rfl⟩ := List.mem_map.mp hd'
  rfl
theorem bXSort_ways {ws : List Way} {A : List D → Prop} (hA : A ((sortE (keys ws)).map exD)) : bXSort [waysD ws] A := by
  have e : (dP exD natD ws).map (·.1) = (keys ws).map exD := dP_keys ws
  show PyData.plainAll (pyAll ((dP exD natD ws).map (·.1))) = true ∧ PySem.W.AllAlike (((dP exD natD ws).map (·.1)).map py) ∧ PySem.W.Sortable (((dP exD natD ws).map (·.1)).map py) ∧ (∀ x ∈ (dP exD natD ws).map (·.1), (py x).depth ≤ 60) ∧ A (Zi.sortD ((dP exD natD ws).map (·.1)))
  rw [e, sortD_ex]
  refine ⟨plainAll_ex _, alikeAll_ex _, .inl fun d hd => ?_, fun x hx => ?_, hA⟩
  · rw [List.map_map] at hd
    obtain ⟨a, _, rfl⟩ := List.mem_map.mp hd
    exact ⟨_, _, rfl⟩
  · obtain ⟨a, _, rfl⟩ := List.mem_map.mp hx
    show (1 : Nat) ≤ 60
    decide
def getW (ws : List Way) (e : Exch) : Way := (e, (lookA ws e).getD 0)
theorem wsS_eq (ws : List Way) : wsS ws = (sortE (keys ws)).map (getW ws) := rfl
theorem look_key {ws : List Way} {e : Exch} (h : e ∈ sortE (keys ws)) : lookA ws e = some (getW ws e).2 := by
  have h1 : e ∈ ws.map (·.1) := (sortE_perm _).mem_iff.mp h
  unfold getW
  cases z : lookA ws e with
  | none => exact absurd h1 (lookA_none.mp z)
  | some n => rfl
theorem dlook_ways {ws : List Way} {e : Exch} (h : e ∈ sortE (keys ws)) : dlook ((dP exD natD ws).map (·.1)) ((dP exD natD ws).map (·.2)) (kE e) = some (natD (getW ws e).2) := by
  rw [dlook_dP km_ex, look_key h]; rfl
theorem keys_len (ws : List Way) : (sortE (keys ws)).length = ws.length := by rw [(sortE_perm _).length_eq]; exact List.length_map ..
/-! ### loops of dict comprehensions -/
theorem cgGo_dict {α κ β : Type} [DecidableEq κ] {t : Bool} {kd : κ → D} {kn : κ → NestedKey} {vd : β → D} (M : KM t kd kn) {tg : Tgt} {ek ev : AE} {vs : List Nat} {k : AS → List (D × D) → Prop} {E0 : List Sl} {st : List Cell} (tD : α → D) (kf : α → κ) (vf : α → β) (xs : List α) (hl : xs.length ≤ 1000) (nd : (xs.map kf).Nodup)
    (h : ∀ x ∈ xs, ∃ env', bindT tg (tD x) E0 = some env' ∧ wipeE env' vs = E0 ∧ (∀ A : R → AS → Prop, A (.w (.d (kd (kf x)))) ⟨env', st⟩ → ek ⟨env', st⟩ A) ∧ (∀ A : R → AS → Prop, A (.w (.d (vd (vf x)))) ⟨env', st⟩ → ev ⟨env', st⟩ A))
    (hk : k ⟨E0, st⟩ (dP kd vd (xs.map fun x => (kf x, vf x)))) : cgGo tg aYes (aXEmit t ek ev) vs k (xs.map tD) ⟨E0, st⟩ [] := by
  refine cgGo_ty tD (fun pre ys s acc => s = ⟨E0, st⟩ ∧ acc = dP kd vd (pre.map fun x => (kf x, vf x))) xs ?_ ?_ _ _ ⟨rfl, rfl⟩
  · rintro s acc ⟨rfl, rfl⟩
    exact hk
  · rintro pre x ys s acc k' e1 hk' ⟨rfl, rfl⟩
    obtain ⟨env', h1, h2, h3, h4⟩ := h x (by rw [e1]; simp)
    have hp : pre.length < 1000 := by
      have : xs.length = pre.length + (ys.length + 1) := by rw [e1, List.length_append, List.length_cons]
      omega
    have ni : kf x ∉ ((pre.map fun x => (kf x, vf x)).map (·.1)) := by
      rw [e1, List.map_append, List.map_cons, List.nodup_append] at nd
      rw [List.map_map]
      intro z
      exact nd.2.2 _ z _ List.mem_cons_self rfl
    simp only [h1, aYes, if_true, aXEmit]
    refine h3 _ ?_
    refine h4 _ ?_
    simp only [toW, M.kx]
    refine ⟨by rw [dP_len, List.length_map]; exact Nat.lt_of_lt_of_le hp (by decide), hk' _ _ ⟨by rw [h2], ?_⟩⟩
    rw [putD_dP M, putA_new ni, List.map_append]
    rfl
theorem enumD_map {α : Type} (f : α → D) : ∀ (l : List α) (k : Nat), enumD k (l.map f) = (l.zipIdx k).map fun p => .tup [natD p.2, f p.1]
  | [], _ => rfl
  | x :: l, k => by
    rw [List.map_cons, List.zipIdx_cons, List.map_cons]
    show D.tup [.int (k : Int), f x] :: enumD (k + 1) (l.map f) = _
    rw [enumD_map f l (k + 1)]
theorem lookA_zip {κ : Type} [DecidableEq κ] [BEq κ] [LawfulBEq κ] {n : κ} : ∀ {l : List κ} {k : Nat}, n ∈ l → lookA (l.zipIdx k) n = some (k + l.idxOf n)
  | [], _, h => by cases h
  | x :: l, k, h => by
    rw [List.zipIdx_cons]
    show (if x = n then some k else lookA (l.zipIdx (k + 1)) n) = _
    rw [List.idxOf_cons]
    by_cases e : x = n
    · rw [if_pos e]; simp [e]
    · rw [if_neg e]
      have : n ∈ l := (List.mem_cons.mp h).resolve_left fun z => e z.symm
      rw [lookA_zip this]
      have : (x == n) = false := beq_eq_false_iff_ne.mpr e
      rw [this]
      simp only [cond_false]
      congr 1
      omega
/-! ### what is come to, closed -/
theorem adds_pre : ∀ {l : List Way} {acc : List Nat}, ∃ r, l.foldl (fun a w => add1 a w.2) acc = acc ++ r
  | [], acc => ⟨[], by simp⟩
  | w :: l, acc => by
    obtain ⟨r, e⟩ := adds_pre (l := l) (acc := add1 acc w.2)
    have e : (w :: l).foldl (fun a w => add1 a w.2) acc = add1 acc w.2 ++ r := e
    rw [e]
    unfold add1
    split
    · exact ⟨r, rfl⟩
    · exact ⟨[w.2] ++ r, by simp⟩
theorem adds_mem {w : Way} : ∀ {l : List Way} {acc : List Nat}, w ∈ l → w.2 ∈ l.foldl (fun a w => add1 a w.2) acc
  | x :: l, acc, h => by
    show w.2 ∈ l.foldl (fun a w => add1 a w.2) (add1 acc x.2)
    rcases List.mem_cons.mp h with rfl | h
    · refine adds_keep ?_
      unfold add1
      split
      · assumption
      · simp
    · exact adds_mem h
theorem reach_pre (t : Tab) (k : Nat) : ∀ j, ∃ r, reachN t (k + j) = reachN t k ++ r
  | 0 => ⟨[], by simp⟩
  | j + 1 => by
    obtain ⟨r, e⟩ := reach_pre t k j
    show ∃ r, (match (reachN t (k + j))[k + j]? with | some s => stepR t (reachN t (k + j)) s | none => reachN t (k + j)) = _
    split
    · obtain ⟨r2, e2⟩ := adds_pre (l := wsS (row t _).2) (acc := reachN t (k + j))
      exact ⟨r ++ r2, by unfold stepR; rw [e2, e, List.append_assoc]⟩
    · exact ⟨r, e⟩
theorem reachF_closed {t : Tab} (T : TabOk t) {s : Nat} (h : s ∈ reachF t) {w : Way} (hw : w ∈ wsS (row t s).2) : w.2 ∈ reachF t := by
  obtain ⟨i, hi, e⟩ := List.getElem_of_mem h
  have hl : (reachF t).length ≤ t.length := reachN_len T _
  have lt : i < (reachN t i).length := by
    apply Classical.byContradiction
    intro z
    have := reachF_eq T (k := i) (by omega) (by omega)
    rw [this] at hi
    omega
  have ei : (reachN t i)[i]? = some s := by
    obtain ⟨r, er⟩ := reach_pre t i (t.length - i)
    rw [show i + (t.length - i) = t.length by omega] at er
    have : (reachF t)[i]? = some s := by rw [List.getElem?_eq_getElem hi, e]
    have er : reachF t = reachN t i ++ r := er
    rw [er, List.getElem?_append_left lt] at this
    exact this
  obtain ⟨r, er⟩ := reach_pre t (i + 1) (t.length - (i + 1))
  rw [show i + 1 + (t.length - (i + 1)) = t.length by omega] at er
  have er : reachF t = reachN t (i + 1) ++ r := er
  rw [er]
  refine List.mem_append_left _ ?_
  show w.2 ∈ (match (reachN t i)[i]? with | some s => stepR t (reachN t i) s | none => reachN t i)
  rw [ei]
  exact adds_mem hw
theorem wsS_keys (ws : List Way) : (wsS ws).map (·.1) = sortE (keys ws) := by
  rw [wsS_eq, List.map_map]
  exact List.map_id _
theorem sortE_nodup {ws : List Way} (nd : (keys ws).Nodup) : (sortE (keys ws)).Nodup := (sortE_perm _).nodup_iff.mpr nd
theorem lookA_zip_none {κ : Type} [DecidableEq κ] {n : κ} {l : List κ} {k : Nat} (h : n ∉ l) : lookA (l.zipIdx k) n = none := lookA_none.mpr (by rw [List.zipIdx_map_fst]; exact h)
/-! ### counts of what differs -/
def dcnt (val : Nat → Int) (n : Nat) : Nat := (PyProof.Rows.firstMet val n).length
theorem dcnt_succ (val : Nat → Int) (n : Nat) : dcnt val (n + 1) = if (∃ j, j < n ∧ val j = val n) then dcnt val n else dcnt val n + 1 := by
  unfold dcnt
  rw [PyProof.Rows.firstMet_succ]
  have e := PyProof.Rows.firstMet_any val n (val n)
  unfold PyProof.Rows.step_dedup
  by_cases h : ∃ j, j < n ∧ val j = val n
  · rw [if_pos h]
    have : (PyProof.Rows.firstMet val n).any (· == val n) = true := by
      rw [e, List.any_eq_true]
      obtain ⟨j, hj, ej⟩ := h
      exact ⟨val j, List.mem_map.mpr ⟨j, List.mem_range.mpr hj, rfl⟩, beq_iff_eq.mpr ej⟩
    simp [this]
  · rw [if_neg h]
    have : (PyProof.Rows.firstMet val n).any (· == val n) = false := by
      rw [e, List.any_eq_false]
      intro x hx
      obtain ⟨j, hj, rfl⟩ := List.mem_map.mp hx
      exact fun z => h ⟨j, List.mem_range.mp hj, beq_iff_eq.mp z⟩
    simp [this]
theorem dcnt_mono {v v' : Nat → Int} : ∀ {n : Nat}, (∀ a b, a < n → b < n → v' a = v' b → v a = v b) → dcnt v n ≤ dcnt v' n
  | 0, _ => Nat.le_refl _
  | n + 1, h => by
    have ih := dcnt_mono (n := n) fun a b ha hb => h a b (by omega) (by omega)
    rw [dcnt_succ, dcnt_succ]
    by_cases z : ∃ j, j < n ∧ v' j = v' n
    · obtain ⟨j, hj, e⟩ := id z
      rw [if_pos z, if_pos ⟨j, hj, h j n (by omega) (by omega) e⟩]; exact ih
    · rw [if_neg z]
      split <;> omega
theorem dcnt_eq {v v' : Nat → Int} : ∀ {n : Nat}, (∀ a b, a < n → b < n → v' a = v' b → v a = v b) → dcnt v n = dcnt v' n → ∀ a b, a < n → b < n → v a = v b → v' a = v' b
  | 0, _, _ => fun a b ha => absurd ha (Nat.not_lt_zero _)
  | n + 1, h, e => by
    have h0 : ∀ a b, a < n → b < n → v' a = v' b → v a = v b := fun a b ha hb => h a b (by omega) (by omega)
    have m := dcnt_mono h0
    rw [dcnt_succ, dcnt_succ] at e
    have key : dcnt v n = dcnt v' n ∧ ((∃ j, j < n ∧ v j = v n) → ∃ j, j < n ∧ v' j = v' n) := by
      by_cases z : ∃ j, j < n ∧ v' j = v' n
      · obtain ⟨j, hj, ej⟩ := id z
        rw [if_pos z, if_pos ⟨j, hj, h j n (by omega) (by omega) ej⟩] at e
        exact ⟨e, fun _ => z⟩
      · rw [if_neg z] at e
        by_cases y : ∃ j, j < n ∧ v j = v n
        · rw [if_pos y] at e; omega
        · rw [if_neg y] at e
          exact ⟨by omega, fun q => (y q).elim⟩
    have ih := dcnt_eq h0 key.1
    have last : ∀ a, a < n → v a = v n → v' a = v' n := fun a ha ea => by
      obtain ⟨j, hj, ej⟩ := key.2 ⟨a, ha, ea⟩
      have e1 : v j = v n := h j n (by omega) (by omega) ej
      rw [ih a j ha hj (ea.trans e1.symm), ej]
    intro a b ha hb eab
    by_cases za : a < n
    · by_cases zb : b < n
      · exact ih a b za zb eab
      · rw [show b = n by omega] at eab ⊢; exact last a za eab
    · by_cases zb : b < n
      · rw [show a = n by omega] at eab ⊢; exact (last b zb eab.symm).symm
      · rw [show a = b by omega]
def valN (c : List Nat) (i : Nat) : Int := ((c.getD i 0 : Nat) : Int)
theorem distN_eq (c : List Nat) : distN c = dcnt (valN c) c.length := by
  unfold distN distinct dcnt
  rw [List.length_map]
  congr 2
  funext i
  unfold valN
  rw [List.getD_eq_getElem?_getD, List.getElem?_map, List.getD_eq_getElem?_getD]
  cases c[i]? with
  | none => rfl
  | some n => rfl
theorem distN_le (c : List Nat) : distN c ≤ c.length := by
  unfold distN distinct
  have := PyProof.Rows.firstMet_length_le (fun i => (c.map fun (n : Nat) => (n : Int)).getD i 0) (c.map fun (n : Nat) => (n : Int)).length
  rw [List.length_map] at this
  rw [List.length_map]
  exact this
/-! ### classes -/
theorem dedup_mem {k : CK} : ∀ {ks acc : List CK}, (k ∈ ks ∨ k ∈ acc) → k ∈ ks.foldl (fun acc k => if k ∈ acc then acc else acc ++ [k]) acc
  | [], acc, h => h.resolve_left (by simp)
  | x :: ks, acc, h => by
    refine dedup_mem (ks := ks) (acc := if x ∈ acc then acc else acc ++ [x]) ?_
    rcases h with h | h
    · rcases List.mem_cons.mp h with rfl | h
      · right; split
        · assumption
        · simp
      · exact .inl h
    · right; split
      · exact h
      · exact List.mem_append_left _ h
theorem idxOf_inj {κ : Type} [BEq κ] [LawfulBEq κ] {l : List κ} {a b : κ} (ha : a ∈ l) (hb : b ∈ l) (e : l.idxOf a = l.idxOf b) : a = b := by
  have h1 := List.getElem_idxOf (List.idxOf_lt_length_of_mem ha)
  have h2 := List.getElem_idxOf (List.idxOf_lt_length_of_mem hb)
  rw [← h1, ← h2]
  congr 1
theorem cks_len (t : Tab) (c : List Nat) : (cksF t c).length = t.length := by unfold cksF; rw [List.length_map, List.length_range]
theorem stepC_len (t : Tab) (c : List Nat) : (stepC t c).length = t.length := by unfold stepC; rw [List.length_map, cks_len]
theorem stepC_at {t : Tab} {c : List Nat} {i : Nat} (h : i < t.length) : (stepC t c).getD i 0 = (dedupC (cksF t c)).idxOf (ckOf t c i) := by
  unfold stepC cksF
  rw [List.getD_eq_getElem?_getD, List.getElem?_map, List.getElem?_map, List.getElem?_range h]
  rfl
theorem stepC_inj {t : Tab} {c : List Nat} {i j : Nat} (hi : i < t.length) (hj : j < t.length) (e : (stepC t c).getD i 0 = (stepC t c).getD j 0) : ckOf t c i = ckOf t c j := by
  rw [stepC_at hi, stepC_at hj] at e
  have m : ∀ i, i < t.length → ckOf t c i ∈ dedupC (cksF t c) := fun i hi => dedup_mem (.inl (List.mem_map.mpr ⟨i, List.mem_range.mpr hi, rfl⟩))
  exact idxOf_inj (m i hi) (m j hj) e
theorem stepC_mono {t : Tab} {c : List Nat} (hl : c.length = t.length) : distN c ≤ distN (stepC t c) := by
  rw [distN_eq, distN_eq, hl, stepC_len]
  refine dcnt_mono fun a b ha hb e => ?_
  unfold valN at e ⊢
  have := stepC_inj ha hb (Int.ofNat_inj.mp e)
  have := congrArg Prod.fst this
  exact congrArg _ this
theorem ckN_depth (l : List Way) : NestedKey.depth (.tup (l.map fun w => .tup [kE w.1, .num (w.2 : Int)])) ≤ 3 := by
  induction l with
  | nil => decide
  | cons w l ih =>
    have e : NestedKey.depth (.tup [kE w.1, .num (w.2 : Int)]) = 2 := rfl
    rw [List.map_cons]
    simp only [NestedKey.depth, NestedKey.depthAll] at ih e ⊢
    omega
theorem nkAll_map {α : Type} {f : α → D} {g : α → NestedKey} (h : ∀ x, nk (f x) = some (g x)) : ∀ l : List α, nkAll (l.map f) = some (l.map g)
  | [] => rfl
  | x :: l => by rw [List.map_cons, List.map_cons, nkAll, h x, nkAll_map h l]
theorem nk_wayL (w : Way) : nk (wayL w) = some (.tup [kE w.1, .num (w.2 : Int)]) := rfl
theorem kE_inj {a b : Exch} (h : kE a = kE b) : a = b := km_ex.inj a b h
theorem km_ck : KM true ckD kC := ⟨fun k => by
  unfold ckD keyX kC
  have e : nkAll [natD k.1, .tup (k.2.map wayL)] = some [.num (k.1 : Int), .tup (k.2.map fun w => .tup [kE w.1, .num (w.2 : Int)])] := by
    have e2 : nk (.tup (k.2.map wayL)) = some (.tup (k.2.map fun w => .tup [kE w.1, .num (w.2 : Int)])) := by
      rw [nk, nkAll_map nk_wayL]; rfl
    rw [nkAll, nkAll, e2]; rfl
  simp only [e]
  rw [if_pos]
  have h := ckN_depth k.2
  simp only [NestedKey.depth, NestedKey.depthAll] at h ⊢
  omega, fun a b h => by
  unfold kC at h
  injection h with h
  injection h with h1 h
  injection h with h2 _
  injection h1 with h1
  injection h2 with h2
  refine Prod.ext (Int.ofNat_inj.mp h1) ?_
  refine (List.map_inj_right (fun x y e => ?_)).mp h2
  injection e with e
  injection e with e1 e
  injection e with e2 _
  injection e2 with e2
  exact Prod.ext (kE_inj e1) (Int.ofNat_inj.mp e2)⟩
theorem zipIdx_snoc {α : Type} (l : List α) (x : α) : (l ++ [x]).zipIdx = l.zipIdx ++ [(x, l.length)] := by
  rw [List.zipIdx_append]; simp
theorem putA_zip {κ : Type} [DecidableEq κ] {l : List κ} {k : κ} (h : k ∉ l) : putA l.zipIdx k l.length = (l ++ [k]).zipIdx := by
  rw [putA_new (by rw [List.zipIdx_map_fst]; exact h), zipIdx_snoc]
theorem dedup_len : ∀ {ks acc : List CK}, (ks.foldl (fun acc k => if k ∈ acc then acc else acc ++ [k]) acc).length ≤ acc.length + ks.length
  | [], acc => Nat.le_refl _
  | x :: ks, acc => by
    have := dedup_len (ks := ks) (acc := if x ∈ acc then acc else acc ++ [x])
    refine Nat.le_trans this ?_
    rw [List.length_cons]
    split
    · omega
    · rw [List.length_append, List.length_singleton]; omega
end K13

set_option Elab.async false
set_option linter.all false
set_option maxRecDepth 100000
set_option maxHeartbeats 400000
set_option pp.deepTerms false
set_option pp.maxSteps 400
namespace K13
open PySem PySem.Spec PyProof.Rows L2 Ly Zi Zs Lc K06
open PySem.W (minD AlikeAll)
def topS (i : Nat) : Stmt := PySem.Challenge.pw_talkwatch_k13_counts_and_shortest.main.body.getD i (.Pass ⟨0, 0, 0, 0⟩)
abbrev s_is_name : Stmt := topS 8
theorem sc_is_name : FnScope ["thing", "sign"] ["thing"] (defScope s_is_name) := ⟨rfl, rfl, rfl, by decide +kernel, rfl, by decide +kernel, by decide +kernel⟩
abbrev s_is_exchange : Stmt := topS 9
theorem sc_is_exchange : FnScope ["thing", "part"] ["thing"] (defScope s_is_exchange) := ⟨rfl, rfl, rfl, by decide +kernel, rfl, by decide +kernel, by decide +kernel⟩
abbrev s_is_number : Stmt := topS 10
theorem sc_is_number : FnScope ["thing", "count"] ["thing", "count"] (defScope s_is_number) := ⟨rfl, rfl, rfl, by decide +kernel, rfl, by decide +kernel, by decide +kernel⟩
abbrev s_are_ways : Stmt := topS 11
theorem sc_are_ways : FnScope ["ways", "count", "way", "exchange", "state"] ["ways", "count"] (defScope s_are_ways) := ⟨rfl, rfl, rfl, by decide +kernel, rfl, by decide +kernel, by decide +kernel⟩
abbrev s_must_rows : Stmt := topS 12
theorem sc_must_rows : FnScope ["rows", "row"] ["rows"] (defScope s_must_rows) := ⟨rfl, rfl, rfl, by decide +kernel, rfl, by decide +kernel, by decide +kernel⟩
abbrev s_reached : Stmt := topS 13
theorem sc_reached : FnScope ["rows", "found", "seen", "at", "ways", "exchange"] ["rows"] (defScope s_reached) := ⟨rfl, rfl, rfl, by decide +kernel, rfl, by decide +kernel, by decide +kernel⟩
abbrev s_renumbered : Stmt := topS 14
theorem sc_renumbered : FnScope ["rows", "found", "state", "number_of", "told", "ends", "ways", "number", "exchange"] ["rows"] (defScope s_renumbered) := ⟨rfl, rfl, rfl, by decide +kernel, rfl, by decide +kernel, by decide +kernel⟩
abbrev s_classes_of : Stmt := topS 15
theorem sc_classes_of : FnScope ["rows", "ends", "ways", "found", "count", "keys", "number", "first_of", "key", "exchange"] ["rows"] (defScope s_classes_of) := ⟨rfl, rfl, rfl, by decide +kernel, rfl, by decide +kernel, by decide +kernel⟩
abbrev s_least : Stmt := topS 16
theorem sc_least : FnScope ["rows", "some", "classes", "merged", "number", "ends", "ways", "exchange"] ["rows"] (defScope s_least) := ⟨rfl, rfl, rfl, by decide +kernel, rfl, by decide +kernel, by decide +kernel⟩
abbrev s_renumbered_from : Stmt := topS 17
theorem sc_renumbered_from : FnScope ["merged", "start", "number", "order", "place_of", "rows", "ends", "ways", "place", "exchange"] ["merged", "start"] (defScope s_renumbered_from) := ⟨rfl, rfl, rfl, by decide +kernel, rfl, by decide +kernel, by decide +kernel⟩
abbrev s_Machine___init__ : Stmt := inClass (topS 18) 0
theorem sc_Machine___init__ : FnScope ["self", "rows", "ends", "ways"] ["self", "rows"] (defScope s_Machine___init__) := ⟨rfl, rfl, rfl, by decide +kernel, rfl, by decide +kernel, by decide +kernel⟩
abbrev s_count_of : Stmt := topS 20
theorem sc_count_of : FnScope ["machine", "length", "whole", "counts", "turn", "more", "number", "ends", "ways", "exchange", "count", "row"] ["machine", "length", "whole"] (defScope s_count_of) := ⟨rfl, rfl, rfl, by decide +kernel, rfl, by decide +kernel, by decide +kernel⟩
abbrev s_shortest : Stmt := topS 21
theorem sc_shortest : FnScope ["machine", "whole", "found", "seen", "at", "history", "state", "exchange", "more"] ["machine", "whole"] (defScope s_shortest) := ⟨rfl, rfl, rfl, by decide +kernel, rfl, by decide +kernel, by decide +kernel⟩
abbrev s_law_at : Stmt := topS 23
theorem sc_law_at : FnScope ["_law_script", "_law_k"] ["_law_script", "_law_k"] (defScope s_law_at) := ⟨rfl, rfl, rfl, by decide +kernel, rfl, by decide +kernel, by decide +kernel⟩
abbrev s_law_mixed : Stmt := topS 24
theorem sc_law_mixed : FnScope ["_law_cell", "_law_k", "_law_number"] ["_law_cell", "_law_k"] (defScope s_law_mixed) := ⟨rfl, rfl, rfl, by decide +kernel, rfl, by decide +kernel, by decide +kernel⟩
abbrev s_law_purse : Stmt := topS 25
theorem sc_law_purse : FnScope ["_law_script", "_law_at_here", "_law_cell"] ["_law_script", "_law_at_here"] (defScope s_law_purse) := ⟨rfl, rfl, rfl, by decide +kernel, rfl, by decide +kernel, by decide +kernel⟩
abbrev s_law_draw : Stmt := topS 26
theorem sc_law_draw : FnScope ["_law_purse_here", "_law_out_of", "_law_drawn", "_law_number", "_law_k"] ["_law_purse_here", "_law_out_of"] (defScope s_law_draw) := ⟨rfl, rfl, rfl, by decide +kernel, rfl, by decide +kernel, by decide +kernel⟩
abbrev s_law_whole_number : Stmt := topS 27
theorem sc_law_whole_number : FnScope ["_law_found"] ["_law_found"] (defScope s_law_whole_number) := ⟨rfl, rfl, rfl, by decide +kernel, rfl, by decide +kernel, by decide +kernel⟩
abbrev s_law_order : Stmt := topS 28
theorem sc_law_order : FnScope ["_law_purse_here", "_law_some", "_law_rest", "_law_found"] ["_law_purse_here", "_law_some"] (defScope s_law_order) := ⟨rfl, rfl, rfl, by decide +kernel, rfl, by decide +kernel, by decide +kernel⟩
abbrev s_law_names : Stmt := topS 29
theorem sc_law_names : FnScope ["_law_purse_here", "_law_many", "_law_some"] ["_law_purse_here", "_law_many"] (defScope s_law_names) := ⟨rfl, rfl, rfl, by decide +kernel, rfl, by decide +kernel, by decide +kernel⟩
abbrev s_law_table : Stmt := topS 30
theorem sc_law_table : FnScope ["_law_rows", "_law_ends", "_law_ways"] ["_law_rows"] (defScope s_law_table) := ⟨rfl, rfl, rfl, by decide +kernel, rfl, by decide +kernel, by decide +kernel⟩
abbrev s_law_exchanges : Stmt := topS 31
theorem sc_law_exchanges : FnScope ["_law_purse_here", "_law_people", "_law_found", "_law_k", "_law_pair", "_law_one_exchange"] ["_law_purse_here", "_law_people"] (defScope s_law_exchanges) := ⟨rfl, rfl, rfl, by decide +kernel, rfl, by decide +kernel, by decide +kernel⟩
abbrev s_law_machine_rows : Stmt := topS 32
theorem sc_law_machine_rows : FnScope ["_law_purse_here", "_law_people", "_law_most", "_law_many", "_law_some", "_law_found", "_law_k", "_law_ways", "_law_exchange"] ["_law_purse_here", "_law_people", "_law_most"] (defScope s_law_machine_rows) := ⟨rfl, rfl, rfl, by decide +kernel, rfl, by decide +kernel, by decide +kernel⟩
abbrev s_law_all_of : Stmt := topS 33
theorem sc_law_all_of : FnScope ["_law_table_here", "_law_length_here", "_law_found", "_law_turn", "_law_more", "_law_history", "_law_at_here", "_law_exchange"] ["_law_table_here", "_law_length_here"] (defScope s_law_all_of) := ⟨rfl, rfl, rfl, by decide +kernel, rfl, by decide +kernel, by decide +kernel⟩
abbrev s_law_counted : Stmt := topS 34
theorem sc_law_counted : FnScope ["_law_table_here", "_law_length_here", "_law_to_end", "_law_ends", "_law_ways", "_law_ends_here", "_law_turn", "_law_after", "_law_exchange"] ["_law_table_here", "_law_length_here", "_law_to_end"] (defScope s_law_counted) := ⟨rfl, rfl, rfl, by decide +kernel, rfl, by decide +kernel, by decide +kernel⟩
abbrev s_law_first_whole : Stmt := topS 35
theorem sc_law_first_whole : FnScope ["_law_table_here", "_law_found", "_law_met", "_law_more", "_law_history", "_law_at_here", "_law_whole_ones", "_law_exchange", "_law_goal"] ["_law_table_here"] (defScope s_law_first_whole) := ⟨rfl, rfl, rfl, by decide +kernel, rfl, by decide +kernel, by decide +kernel⟩
abbrev s_law_counts_right : Stmt := topS 36
theorem sc_law_counts_right : FnScope ["_law_machine_here", "_law_table_here", "_law_length_here", "_law_told", "_law_some", "_law_history", "_law_at_here", "_law_number"] ["_law_machine_here", "_law_table_here", "_law_length_here"] (defScope s_law_counts_right) := ⟨rfl, rfl, rfl, by decide +kernel, rfl, by decide +kernel, by decide +kernel⟩
abbrev s_law : Stmt := topS 37
theorem sc_law : FnScope ["_law_script", "_law_cell", "_law_purse_here", "_law_rows", "_law_machine_here", "_law_table_here", "_law_length_here", "_law_due", "_law_turn", "_law_found", "_law_ends", "_law_ways"] ["_law_script"] (defScope s_law) := ⟨rfl, rfl, rfl, by decide +kernel, rfl, by decide +kernel, by decide +kernel⟩
structure Top (K : PySem.W.Frag) (mg : Str → Option Value) where
  a_is_name : Addr
  fd_is_name : FuncData
  F_is_name : Fun K "is_name" "is_name" s_is_name a_is_name fd_is_name
  b_is_name : Binds K fd_is_name ["thing"] []
  g_is_name : mg "is_name" = some (.ref a_is_name)
  a_is_exchange : Addr
  fd_is_exchange : FuncData
  F_is_exchange : Fun K "is_exchange" "is_exchange" s_is_exchange a_is_exchange fd_is_exchange
  b_is_exchange : Binds K fd_is_exchange ["thing"] []
  g_is_exchange : mg "is_exchange" = some (.ref a_is_exchange)
  a_is_number : Addr
  fd_is_number : FuncData
  F_is_number : Fun K "is_number" "is_number" s_is_number a_is_number fd_is_number
  b_is_number : Binds K fd_is_number ["thing", "count"] []
  g_is_number : mg "is_number" = some (.ref a_is_number)
  a_are_ways : Addr
  fd_are_ways : FuncData
  F_are_ways : Fun K "are_ways" "are_ways" s_are_ways a_are_ways fd_are_ways
  b_are_ways : Binds K fd_are_ways ["ways", "count"] []
  g_are_ways : mg "are_ways" = some (.ref a_are_ways)
  a_must_rows : Addr
  fd_must_rows : FuncData
  F_must_rows : Fun K "must_rows" "must_rows" s_must_rows a_must_rows fd_must_rows
  b_must_rows : Binds K fd_must_rows ["rows"] []
  g_must_rows : mg "must_rows" = some (.ref a_must_rows)
  a_reached : Addr
  fd_reached : FuncData
  F_reached : Fun K "reached" "reached" s_reached a_reached fd_reached
  b_reached : Binds K fd_reached ["rows"] []
  g_reached : mg "reached" = some (.ref a_reached)
  a_renumbered : Addr
  fd_renumbered : FuncData
  F_renumbered : Fun K "renumbered" "renumbered" s_renumbered a_renumbered fd_renumbered
  b_renumbered : Binds K fd_renumbered ["rows"] []
  g_renumbered : mg "renumbered" = some (.ref a_renumbered)
  a_classes_of : Addr
  fd_classes_of : FuncData
  F_classes_of : Fun K "classes_of" "classes_of" s_classes_of a_classes_of fd_classes_of
  b_classes_of : Binds K fd_classes_of ["rows"] []
  g_classes_of : mg "classes_of" = some (.ref a_classes_of)
  a_least : Addr
  fd_least : FuncData
  F_least : Fun K "least" "least" s_least a_least fd_least
  b_least : Binds K fd_least ["rows"] []
  g_least : mg "least" = some (.ref a_least)
  a_renumbered_from : Addr
  fd_renumbered_from : FuncData
  F_renumbered_from : Fun K "renumbered_from" "renumbered_from" s_renumbered_from a_renumbered_from fd_renumbered_from
  b_renumbered_from : Binds K fd_renumbered_from ["merged", "start"] []
  g_renumbered_from : mg "renumbered_from" = some (.ref a_renumbered_from)
  a_Machine___init__ : Addr
  fd_Machine___init__ : FuncData
  F_Machine___init__ : Fun K "__init__" "Machine.__init__" s_Machine___init__ a_Machine___init__ fd_Machine___init__
  b_Machine___init__ : Binds K fd_Machine___init__ ["self", "rows"] []
  a_count_of : Addr
  fd_count_of : FuncData
  F_count_of : FunD K "count_of" "count_of" (defArgs s_count_of) (defBody s_count_of) (defScope s_count_of) [] [("whole", V.bl false)] a_count_of fd_count_of
  d_count_of : ∃ ds, Vals [V.bl false] ds ∧ Binds K fd_count_of ["machine", "length", "whole"] ds
  k_count_of : KBn K fd_count_of ["machine", "length", "whole"] 2 ["whole"] (fun us ws => us ++ ws) (fun vs zs => vs ++ zs)
  g_count_of : mg "count_of" = some (.ref a_count_of)
  a_shortest : Addr
  fd_shortest : FuncData
  F_shortest : FunD K "shortest" "shortest" (defArgs s_shortest) (defBody s_shortest) (defScope s_shortest) [] [("whole", V.bl true)] a_shortest fd_shortest
  d_shortest : ∃ ds, Vals [V.bl true] ds ∧ Binds K fd_shortest ["machine", "whole"] ds
  k_shortest : KBn K fd_shortest ["machine", "whole"] 1 ["whole"] (fun us ws => us ++ ws) (fun vs zs => vs ++ zs)
  g_shortest : mg "shortest" = some (.ref a_shortest)
  a_law_at : Addr
  fd_law_at : FuncData
  F_law_at : Fun K "_law_at" "_law_at" s_law_at a_law_at fd_law_at
  b_law_at : Binds K fd_law_at ["_law_script", "_law_k"] []
  g_law_at : mg "_law_at" = some (.ref a_law_at)
  a_law_mixed : Addr
  fd_law_mixed : FuncData
  F_law_mixed : Fun K "_law_mixed" "_law_mixed" s_law_mixed a_law_mixed fd_law_mixed
  b_law_mixed : Binds K fd_law_mixed ["_law_cell", "_law_k"] []
  g_law_mixed : mg "_law_mixed" = some (.ref a_law_mixed)
  a_law_purse : Addr
  fd_law_purse : FuncData
  F_law_purse : Fun K "_law_purse" "_law_purse" s_law_purse a_law_purse fd_law_purse
  b_law_purse : Binds K fd_law_purse ["_law_script", "_law_at_here"] []
  g_law_purse : mg "_law_purse" = some (.ref a_law_purse)
  a_law_draw : Addr
  fd_law_draw : FuncData
  F_law_draw : Fun K "_law_draw" "_law_draw" s_law_draw a_law_draw fd_law_draw
  b_law_draw : Binds K fd_law_draw ["_law_purse_here", "_law_out_of"] []
  g_law_draw : mg "_law_draw" = some (.ref a_law_draw)
  a_law_whole_number : Addr
  fd_law_whole_number : FuncData
  F_law_whole_number : Fun K "_law_whole_number" "_law_whole_number" s_law_whole_number a_law_whole_number fd_law_whole_number
  b_law_whole_number : Binds K fd_law_whole_number ["_law_found"] []
  g_law_whole_number : mg "_law_whole_number" = some (.ref a_law_whole_number)
  a_law_order : Addr
  fd_law_order : FuncData
  F_law_order : Fun K "_law_order" "_law_order" s_law_order a_law_order fd_law_order
  b_law_order : Binds K fd_law_order ["_law_purse_here", "_law_some"] []
  g_law_order : mg "_law_order" = some (.ref a_law_order)
  a_law_names : Addr
  fd_law_names : FuncData
  F_law_names : Fun K "_law_names" "_law_names" s_law_names a_law_names fd_law_names
  b_law_names : Binds K fd_law_names ["_law_purse_here", "_law_many"] []
  g_law_names : mg "_law_names" = some (.ref a_law_names)
  a_law_table : Addr
  fd_law_table : FuncData
  F_law_table : Fun K "_law_table" "_law_table" s_law_table a_law_table fd_law_table
  b_law_table : Binds K fd_law_table ["_law_rows"] []
  g_law_table : mg "_law_table" = some (.ref a_law_table)
  a_law_exchanges : Addr
  fd_law_exchanges : FuncData
  F_law_exchanges : Fun K "_law_exchanges" "_law_exchanges" s_law_exchanges a_law_exchanges fd_law_exchanges
  b_law_exchanges : Binds K fd_law_exchanges ["_law_purse_here", "_law_people"] []
  g_law_exchanges : mg "_law_exchanges" = some (.ref a_law_exchanges)
  a_law_machine_rows : Addr
  fd_law_machine_rows : FuncData
  F_law_machine_rows : Fun K "_law_machine_rows" "_law_machine_rows" s_law_machine_rows a_law_machine_rows fd_law_machine_rows
  b_law_machine_rows : Binds K fd_law_machine_rows ["_law_purse_here", "_law_people", "_law_most"] []
  g_law_machine_rows : mg "_law_machine_rows" = some (.ref a_law_machine_rows)
  a_law_all_of : Addr
  fd_law_all_of : FuncData
  F_law_all_of : Fun K "_law_all_of" "_law_all_of" s_law_all_of a_law_all_of fd_law_all_of
  b_law_all_of : Binds K fd_law_all_of ["_law_table_here", "_law_length_here"] []
  g_law_all_of : mg "_law_all_of" = some (.ref a_law_all_of)
  a_law_counted : Addr
  fd_law_counted : FuncData
  F_law_counted : Fun K "_law_counted" "_law_counted" s_law_counted a_law_counted fd_law_counted
  b_law_counted : Binds K fd_law_counted ["_law_table_here", "_law_length_here", "_law_to_end"] []
  g_law_counted : mg "_law_counted" = some (.ref a_law_counted)
  a_law_first_whole : Addr
  fd_law_first_whole : FuncData
  F_law_first_whole : Fun K "_law_first_whole" "_law_first_whole" s_law_first_whole a_law_first_whole fd_law_first_whole
  b_law_first_whole : Binds K fd_law_first_whole ["_law_table_here"] []
  g_law_first_whole : mg "_law_first_whole" = some (.ref a_law_first_whole)
  a_law_counts_right : Addr
  fd_law_counts_right : FuncData
  F_law_counts_right : Fun K "_law_counts_right" "_law_counts_right" s_law_counts_right a_law_counts_right fd_law_counts_right
  b_law_counts_right : Binds K fd_law_counts_right ["_law_machine_here", "_law_table_here", "_law_length_here"] []
  g_law_counts_right : mg "_law_counts_right" = some (.ref a_law_counts_right)
  a_law : Addr
  fd_law : FuncData
  F_law : Fun K "law" "law" s_law a_law fd_law
  b_law : Binds K fd_law ["_law_script"] []
  g_law : mg "law" = some (.ref a_law)
  C_Machine : Addr
  g_Machine : mg "Machine" = some (.ref C_Machine)
  M_Machine : Mk K C_Machine a_Machine___init__
  c_Machine : Cls K C_Machine
  n_Machine_states : NoAttr K C_Machine "states"
  ct_LETTERS : Tok
  c_LETTERS : mg "LETTERS" = some (.str "abcdefghijklmnopqrstuvwxyz" ct_LETTERS)
  ct_MOST_LETTERS : Tok
  c_MOST_LETTERS : mg "MOST_LETTERS" = some (.int 8 ct_MOST_LETTERS)
  ct_MOST_STATES : Tok
  c_MOST_STATES : mg "MOST_STATES" = some (.int 400 ct_MOST_STATES)
  z_all : mg "all" = none
  z_bool : mg "bool" = none
  z_dict : mg "dict" = none
  z_enumerate : mg "enumerate" = none
  z_int : mg "int" = none
  z_isinstance : mg "isinstance" = none
  z_len : mg "len" = none
  z_list : mg "list" = none
  z_max : mg "max" = none
  z_min : mg "min" = none
  z_range : mg "range" = none
  z_set : mg "set" = none
  z_sorted : mg "sorted" = none
  z_str : mg "str" = none
  z_sum : mg "sum" = none
  z_tuple : mg "tuple" = none
  z_zip : mg "zip" = none
theorem eqD_str (a b : Str) : eqD (.str a) (.str b) = (a == b) := rfl
theorem inD2 (h a b : Str) : inD (.str h) [.str a, .str b] = (a == h || b == h) := by
  unfold inD
  simp only [List.any_cons, List.any_nil, eqD_str, Bool.or_false]
theorem cut2 {a b : D} {l : List D} : cutZ (a :: b :: l) none (some 2) = [a, b] := by
  unfold cutZ
  have : HT.sIx (a :: b :: l).length (a :: b :: l).length (some 2) = 2 := by
    rw [show (2 : Int) = ((2 : Nat) : Int) from rfl, HT.sIx_nat]
    simp only [List.length_cons]; omega
  rw [this, HT.sIx_none]
  rfl
theorem part32 : partT (0 + 1 + 1 + 1) none (some 2) = True := eq_true (by unfold partT; decide)
theorem all_str2 {a b : Str} : [D.str a, D.str b].all okD = true := rfl
local macro_rules | `(tactic| walk_at "z") => `(tactic| simp (config := { dsimp := false }) only [aSeq, aIf, aT, aYes, aAnd, aOr, aNot, aOp, aOpL, aUn, aVar, aC, aRaw, aMove, pk, q_peek_w, q_peek_s, q_peekW_d, q_peekW_loc, q_cellD_lst, q_cellD_dic, ↓q_toW_w, q_toW_w, ↓q_toW_s, q_toW_s, ↓q_toL_w, q_toL_w, ↓q_toL_s, q_toL_s, ↓q_nToW_w, q_nToW_w, ↓q_nToW_lst, q_nToW_lst, ↓q_nToW_dic, q_nToW_dic, q_put_w, q_put_n, q_getC_loc, q_getC_s, q_putC_loc, q_putC_s, aFz, aN, aAsg, aAsgT, q_bind_nm, q_bind_tp, q_binds_nil, q_binds_cons, aRet, aRetN, aDrop, aDropN, aNext, aBreak, aCont, aAug, aSetIx, aDPut, aCall, aCons, aConsL, aNil, aLst, aTup, lstC, wsD, rCons, rNil, pks, aCB, aCBL, aBM, aBM0, isL, mAppend, mPop, mPopAt,
  aSlL, aSlT, aRevL, aNo, aSome, aAndV, aOrV, aNotV, aIfE, aChain, aDIn, aDGet, aDNew, withDic, Zi.keyOf, cut2, part32, eqD_str, inD2, all_str2, aFor, aForE, comesBack, aLc, aSortSet, aPutS, aCl, aIL, aIT, aIR1, aIR2, aIE, aIZ, aIS, wipeE, backE,
  q_cellD_dit, q_nToW_dit, q_key_int, aXGet, aXIn, aXGet1, aXNew, aXPut, aXSetd, withX, bXLen, aIXK, aIXI, aXDict, aXOne, aXDc, aXEmit, aNLen, aNEmit, aFld, aSetF, aMake, aAugS, bAll, bAny, bSum, bInt, aTupOf, aLenSet, oRep, aCallD, aCallN, aTupW, aIxW, aAsgW, eqI2, eqI3, aLenW, aDead, bLenS, aConsN, nToL, w0s, bindWs, W0.w, oAdd, oSub, oMul, oMulW, oMod, oDiv, oDivW, oPow, oLt, oLe, oGt, oGe, oI, oIc, oEq, oNe, oIn, oIx, oCat, oAddS, oInS, oIs, oIsNot, oIsB, oIsNB, Zi.isNon, oNeg, oBits, bLen, bList, bMax2, bMin2, bMin, aIsi, aSetSl, tyN, kit_NoneType_bool, kit_NoneType_int, kit_NoneType_str, kit_NoneType_list, kit_NoneType_tuple, kit_NoneType_dict, kit_bool_bool, kit_bool_int, kit_bool_str, kit_bool_list, kit_bool_tuple, kit_bool_dict, kit_int_bool, kit_int_int, kit_int_str, kit_int_list, kit_int_tuple, kit_int_dict, kit_str_bool, kit_str_int, kit_str_str, kit_str_list, kit_str_tuple, kit_str_dict, kit_list_bool, kit_list_int, kit_list_str, kit_list_list, kit_list_tuple, kit_list_dict, kit_tuple_bool, kit_tuple_int, kit_tuple_str, kit_tuple_list, kit_tuple_tuple, kit_tuple_dict, kit_dict_bool, kit_dict_int, kit_dict_str, kit_dict_list, kit_dict_tuple, kit_dict_dict, 
  List.getElem?_cons_zero, List.getElem?_cons_succ, List.set_cons_zero, List.set_cons_succ, List.length_cons, List.length_nil, List.set_set, List.getElem?_set_self, Nat.zero_le, okD_nil, okD_str, okD_int, okD_bl, okD_non, ea0, at0, at1, at2, at3, ix0, ix1, ix2, true_and, and_true, Bool.false_eq_true, Bool.not_true, Bool.not_false, ↓reduceIte, *])
local macro_rules | `(tactic| walk_at "y") => `(tactic| simp only [aSeq, aIf, aT, aYes, aAnd, aOr, aNot, aOp, aOpL, aUn, aVar, aC, aRaw, aMove, pk, q_peek_w, q_peek_s, q_peekW_d, q_peekW_loc, q_cellD_lst, q_cellD_dic, ↓q_toW_w, q_toW_w, ↓q_toW_s, q_toW_s, ↓q_toL_w, q_toL_w, ↓q_toL_s, q_toL_s, ↓q_nToW_w, q_nToW_w, ↓q_nToW_lst, q_nToW_lst, ↓q_nToW_dic, q_nToW_dic, q_put_w, q_put_n, q_getC_loc, q_getC_s, q_putC_loc, q_putC_s, aFz, aN, aAsg, aAsgT, q_bind_nm, q_bind_tp, q_binds_nil, q_binds_cons, aRet, aRetN, aDrop, aDropN, aNext, aBreak, aCont, aAug, aSetIx, aDPut, aCall, aCons, aConsL, aNil, aLst, aTup, lstC, wsD, rCons, rNil, pks, aCB, aCBL, aBM, aBM0, isL, mAppend, mPop, mPopAt,
  aSlL, aSlT, aRevL, aNo, aSome, aAndV, aOrV, aNotV, aIfE, aChain, aDIn, aDGet, aDNew, withDic, Zi.keyOf, cut2, part32, eqD_str, inD2, all_str2, aFor, aForE, comesBack, aLc, aSortSet, aPutS, aCl, aIL, aIT, aIR1, aIR2, aIE, aIZ, aIS, wipeE, backE,
  q_cellD_dit, q_nToW_dit, q_key_int, aXGet, aXIn, aXGet1, aXNew, aXPut, aXSetd, withX, bXLen, aIXK, aIXI, aXDict, aXOne, aXDc, aXEmit, aNLen, aNEmit, aFld, aSetF, aMake, aAugS, bAll, bAny, bSum, bInt, aTupOf, aLenSet, oRep, aCallD, aCallN, aTupW, aIxW, aAsgW, eqI2, eqI3, aLenW, aDead, bLenS, aConsN, nToL, w0s, bindWs, W0.w, oAdd, oSub, oMul, oMulW, oMod, oDiv, oDivW, oPow, oLt, oLe, oGt, oGe, oI, oIc, oEq, oNe, oIn, oIx, oCat, oAddS, oInS, oIs, oIsNot, oIsB, oIsNB, Zi.isNon, oNeg, oBits, bLen, bList, bMax2, bMin2, bMin, aIsi, aSetSl, tyN, kit_NoneType_bool, kit_NoneType_int, kit_NoneType_str, kit_NoneType_list, kit_NoneType_tuple, kit_NoneType_dict, kit_bool_bool, kit_bool_int, kit_bool_str, kit_bool_list, kit_bool_tuple, kit_bool_dict, kit_int_bool, kit_int_int, kit_int_str, kit_int_list, kit_int_tuple, kit_int_dict, kit_str_bool, kit_str_int, kit_str_str, kit_str_list, kit_str_tuple, kit_str_dict, kit_list_bool, kit_list_int, kit_list_str, kit_list_list, kit_list_tuple, kit_list_dict, kit_tuple_bool, kit_tuple_int, kit_tuple_str, kit_tuple_list, kit_tuple_tuple, kit_tuple_dict, kit_dict_bool, kit_dict_int, kit_dict_str, kit_dict_list, kit_dict_tuple, kit_dict_dict, 
  List.getElem?_cons_zero, List.getElem?_cons_succ, List.set_cons_zero, List.set_cons_succ, List.length_cons, List.length_nil, List.set_set, List.getElem?_set_self, Nat.zero_le, okD_nil, okD_str, okD_int, okD_bl, okD_non, ea0, at0, at1, at2, at3, ix0, ix1, ix2, true_and, and_true, Bool.false_eq_true, Bool.not_true, Bool.not_false, ↓reduceIte, *])

/-! ### the purse -/
abbrev Pur (a b c : Int) : Cell := .lst [.int a, .int b, .int c]
def PurOk (a b c : Int) : Prop := 0 ≤ a ∧ 0 ≤ b ∧ b < 2147483647 ∧ 0 ≤ c
theorem pow18 : CPowW 10 18 := ⟨by decide, by decide⟩
theorem pow60 : CPowW 10 60 := ⟨by decide, by decide⟩
theorem pow600 : CPowW (10 ^ (60 : Int).toNat) 10 := ⟨by decide, by decide +kernel⟩
theorem pow_pos600 : (0 : Int) < (10 ^ (60 : Int).toNat) ^ (10 : Int).toNat := by decide +kernel
def sp_law_at (K : PySem.W.Frag) : ASp := fun ws st A _ => ∃ (a : Addr) (φ : Hp → Prop) (ns : List Int) (k : Int), ws = [.raw (.ref a) φ, .d (.int k)] ∧ (∀ F, φ F → SqL K F a (ns.map V.int)) ∧ 0 ≤ k ∧ ∀ r, A (.w (.d (.int r))) st
theorem SqL.up {K : PySem.W.Frag} {F H : Hp} {a : Addr} {xs : List V} (s : Same F H) (h : SqL K F a xs) : SqL K H a xs := by
  rcases h with h | h
  · rcases h with h | ⟨o, h⟩
    · exact .inl (.inl (s _ _ h))
    · exact .inl (.inr ⟨o, s _ _ h⟩)
  · exact .inr h
section
variable {P : Program} [Zi.Wd] {w : World} {K : PySem.W.Frag} {mg : Str → Option Value} {base : Heap}
theorem ok_law_at (T : Top K mg) : FnOk P w K mg base CX0 1 T.a_law_at T.fd_law_at ["_law_script", "_law_k"] (SpA 2 (sp_law_at K)) := by
  refine T.F_law_at.ok sc_law_at (fun vs H Q E h => SpA.len h) (fun cdv A outer s H vs Q E hr h => ?_)
  · obtain ⟨B, ws, st, A, Ea, X, hL, wvs, hm, ⟨a, φ, ns, k, rfl, hφ, hk, hA⟩, kA, kE⟩ := h
    cases wvs with | cons w1 t => ?_
    cases t with | cons w2 t => ?_
    cases t
    obtain ⟨rfl, f1, _⟩ := w1
    cases (show Dv B.F _ (.int k) from w2).intE
    have hS : SqL K H a (ns.map V.int) := SqL.up X.sm (hφ _ f1)
    have q : ∀ r, Q (.int r) H := fun r => kA _ _ B.F B.al H _ (hA r) X (Dv.int r)
    refine ⟨_, (pss_cons (ps_if (pt_cmpR op_lt (pv 1) (pe_callB (call_lenK K rfl) (by rfl) T.z_len (by decide +kernel) (pa_cons (pv 0) pa_nil)) (nomark _)) (pss_one (ps_ret (pe_ix (ix_seqK K rfl) (pv 0) (pv 1) (fun _ _ => rfl)))) pss_nil)
 (pss_one (ps_ret pe_int))), ?_⟩
    refine ⟨_, rfl, _, rfl, a, ns.map V.int, rfl, .inl hS, _, _, rfl, rfl, _, rfl, ite2 (fun h => ?_) (fun _ => q 0)⟩
    have hlt : k < ((ns.map V.int).length : Int) := of_decide_eq_true h
    obtain ⟨j, rfl⟩ := Int.eq_ofNat_of_zero_le hk
    have hj : j < ns.length := by rw [List.length_map] at hlt; omega
    have e : (ns.map V.int)[j]? = some (.int ns[j]) := by rw [List.getElem?_map, List.getElem?_eq_getElem hj]; rfl
    exact ⟨_, rfl, _, rfl, .inl ⟨a, _, _, _, rfl, rfl, hS, atI_nat e, q _⟩⟩
def ab_law_mixed : XA → ASt := fun ea =>
 (aSeq (aAsg 2 (aN (aOp oMod (aOp oAdd (aOp oAdd (aOp oAdd (aOp oMul (aVar 0) (aC (.int 1103515245))) (aOp oMul (aOp oMul (aC (.int 7919)) (aVar 1)) (aVar 1))) (aVar 1)) (aC (.int 1))) (aC (.int 2147483647)))))
 (aSeq (aAsg 2 (aN (aOp oMod (aOp oAdd (aOp oMul (aVar 2) (aVar 2)) (aC (.int 69621))) (aC (.int 2147483629)))))
 (aRet (aN (aOp oMod (aOp oMul (aVar 2) (aC (.int 48271))) (aC (.int 2147483587)))))))
theorem go_law_mixed {w0 w1 : W} {st : List Cell} {A : Zi.N → List Cell → Prop} {Ea : XA} (h : ab_law_mixed Ea ⟨fun s => A (.w (.d .non)) s.st, A, fun _ => False, fun _ => False⟩ ⟨[.v w0, .v w1, .no], st⟩) : aFn 3 ab_law_mixed [w0, w1] st A Ea := h
def sp_law_mixed : ASp := fun ws st A _ => ∃ a k : Int, ws = [.d (.int a), .d (.int k)] ∧ 0 ≤ a ∧ a < 2147483647 ∧ 0 ≤ k ∧ k ≤ 1000000 ∧ ∀ r : Int, 0 ≤ r → r < 2147483587 → A (.w (.d (.int r))) st
theorem red_law_mixed (ws st A Ea) (_ : ws.length = 2) (h : sp_law_mixed ws st A Ea) : aFn 3 ab_law_mixed ws st A Ea := by
  obtain ⟨a, k, rfl, ha, ha2, hk, hk2, q⟩ := h
  refine ⟨.inl ⟨by omega, by omega⟩, ?_⟩
  refine ⟨.inl ⟨by omega, by omega⟩, ?_⟩
  refine ⟨.inr ⟨by omega, by omega⟩, ?_⟩
  refine ⟨(show (0 : Int) < 2147483647 by decide), ?_⟩
  generalize e1 : (a * 1103515245 + 7919 * k * k + k + 1) % 2147483647 = n1
  have b1 : 0 ≤ n1 := by rw [← e1]; exact Int.emod_nonneg _ (by decide)
  have b2 : n1 < 2147483647 := by rw [← e1]; exact Int.emod_lt_of_pos _ (by decide)
  refine ⟨.inl ⟨by omega, by omega⟩, ?_⟩
  refine ⟨(show (0 : Int) < 2147483629 by decide), ?_⟩
  generalize e2 : (n1 * n1 + 69621) % 2147483629 = n2
  have c1 : 0 ≤ n2 := by rw [← e2]; exact Int.emod_nonneg _ (by decide)
  have c2 : n2 < 2147483629 := by rw [← e2]; exact Int.emod_lt_of_pos _ (by decide)
  refine ⟨.inl ⟨by omega, by omega⟩, ?_⟩
  refine ⟨(show (0 : Int) < 2147483587 by decide), ?_⟩
  exact q _ (Int.emod_nonneg _ (by decide)) (Int.emod_lt_of_pos _ (by decide))
theorem ok_law_mixed (T : Top K mg) : FnOk P w K mg base CX0 1 T.a_law_mixed T.fd_law_mixed ["_law_cell", "_law_k"] (SpA 2 sp_law_mixed) := by
  refine T.F_law_mixed.ok sc_law_mixed (fun vs H Q E h => SpA.len h) (fun cdv A outer s H vs Q E hr h => ?_)
  refine ⟨_, (pss_cons (ps_set (i := 2) sc_law_mixed.nd rfl (Or.inl rfl) (pe_op op_mod (pe_op op_add (pe_op op_add (pe_op op_add (pe_op op_mul (pv 0) pe_int) (pe_op op_mul (pe_op op_mul pe_int (pv 1)) (pv 1))) (pv 1)) pe_int) pe_int))
 (pss_cons (ps_set (i := 2) sc_law_mixed.nd rfl (Or.inl rfl) (pe_op op_mod (pe_op op_add (pe_op op_mul (pv 2) (pv 2)) pe_int) pe_int))
 (pss_one (ps_ret (pe_op op_mod (pe_op op_mul (pv 2) pe_int) pe_int))))), fn_read (N := ["_law_cell", "_law_k", "_law_number"]) (ab := ab_law_mixed) (fun ea => ?_) red_law_mixed h⟩
  unfold ab_law_mixed
  exact (RS.seq (RS.asg (RN.of (RE.op oMod_ok (RE.op oAdd_ok (RE.op oAdd_ok (RE.op oAdd_ok (RE.op oMul_ok RE.var RE.int) (RE.op oMul_ok (RE.op oMul_ok RE.int RE.var) RE.var)) RE.var) RE.int) RE.int)))
 (RS.seq (RS.asg (RN.of (RE.op oMod_ok (RE.op oAdd_ok (RE.op oMul_ok RE.var RE.var) RE.int) RE.int)))
 (RS.ret (RN.of (RE.op oMod_ok (RE.op oMul_ok RE.var RE.int) RE.int)))))
def ab_law_purse (K : PySem.W.Frag) : XA → ASt := fun ea =>
 (aSeq (aAsg 2 (aCall ea0 2 (sp_law_at K) (aCons (aVar 0) (aCons (aVar 1) aNil))))
 (aRet (aLst (aCons (aOp oMod (aCB bMax2 (rCons (aOp oSub (aVar 2) (aOp oPow (aC (.int 10)) (aC (.int 18)))) (rCons (aC (.int 0)) rNil))) (aOp oPow (aOp oPow (aC (.int 10)) (aC (.int 60))) (aC (.int 10)))) (aCons (aOp oMod (aVar 2) (aC (.int 2147483647))) (aCons (aOp oMul (aC (.int 1000)) (aVar 1)) aNil))))))
theorem go_law_purse {K : PySem.W.Frag} {w0 w1 : W} {st : List Cell} {A : Zi.N → List Cell → Prop} {Ea : XA} (h : (ab_law_purse K) Ea ⟨fun s => A (.w (.d .non)) s.st, A, fun _ => False, fun _ => False⟩ ⟨[.v w0, .v w1, .no], st⟩) : aFn 3 (ab_law_purse K) [w0, w1] st A Ea := h
def sp_law_purse (K : PySem.W.Frag) : ASp := fun ws st A _ => ∃ (a : Addr) (φ : Hp → Prop) (ns : List Int) (k : Int), ws = [.raw (.ref a) φ, .d (.int k)] ∧ (∀ F, φ F → SqL K F a (ns.map V.int)) ∧ 0 ≤ k ∧ k ≤ 63 ∧ ∀ a b, PurOk a b (1000 * k) → A (.new (Pur a b (1000 * k))) st
theorem red_law_purse (ws st A Ea) (_ : ws.length = 2) (h : sp_law_purse K ws st A Ea) : aFn 3 (ab_law_purse K) ws st A Ea := by
  obtain ⟨a, φ, ns, k, rfl, hS, hk, hk2, q⟩ := h
  refine ⟨rfl, a, φ, ns, k, rfl, hS, hk, fun r => ?_⟩
  refine ⟨pow18, pow60, pow600, pow_pos600, ?_⟩
  refine ⟨(show (0 : Int) < 2147483647 by decide), .inl ⟨by decide, by decide⟩, (show 3 ≤ sizeLine by decide), ?_⟩
  exact q _ _ ⟨Int.emod_nonneg _ (Int.ne_of_gt pow_pos600), Int.emod_nonneg _ (by decide), Int.emod_lt_of_pos _ (by decide), by omega⟩
theorem ok_law_purse (T : Top K mg) : FnOk P w K mg base CX0 2 T.a_law_purse T.fd_law_purse ["_law_script", "_law_at_here"] (SpA 2 (sp_law_purse K)) := by
  refine T.F_law_purse.ok sc_law_purse (fun vs H Q E h => SpA.len h) (fun cdv A outer s H vs Q E hr h => ?_)
  refine ⟨_, (pss_cons (ps_set (i := 2) sc_law_purse.nd rfl (Or.inl rfl) (pe_call (ok_law_at T) (hr.mono (by decide)) (by rfl) T.g_law_at T.F_law_at.kp T.b_law_at .nil pass0 (pa_cons (pv 0) (pa_cons (pv 1) pa_nil))))
 (pss_one (ps_ret (pe_lst (pa_cons (pe_op op_mod (pe_callB (call_max2 rfl) (by rfl) T.z_max (by decide +kernel) (pa_cons (pe_op op_sub (pv 2) (pe_op op_powW pe_int pe_int)) (pa_cons pe_int pa_nil))) (pe_op op_powW (pe_op op_powW pe_int pe_int) pe_int)) (pa_cons (pe_op op_mod (pv 2) pe_int) (pa_cons (pe_op op_mul pe_int (pv 1)) pa_nil))))))), fn_read (N := ["_law_script", "_law_at_here", "_law_cell"]) (ab := (ab_law_purse K)) (fun ea => ?_) red_law_purse h⟩
  unfold ab_law_purse
  exact (RS.seq (RS.asg (RN.call0 (asp := (sp_law_at K)) (RA.cons RE.var (RA.cons RE.var RA.nil))))
 (RS.ret (RN.lst (RA.cons (RE.op oMod_ok (RE.cb bMax2_ok (RR.cons (RE.op oSub_ok RE.var (RE.op oPow_ok RE.int RE.int)) (RR.cons RE.int RR.nil))) (RE.op oPow_ok (RE.op oPow_ok RE.int RE.int) RE.int)) (RA.cons (RE.op oMod_ok RE.var RE.int) (RA.cons (RE.op oMul_ok RE.int RE.var) RA.nil))))))
def ab_law_draw : XA → ASt := fun ea =>
 (aSeq (aIf (aT (aOp oGt (aOp oIx (aVar 0) (aC (.int 0))) (aC (.int 0))))
 (aSeq (aAsg 2 (aN (aOp oMod (aOp oIx (aVar 0) (aC (.int 0))) (aVar 1))))
 (aSeq (aSetIx (aOp oDiv (aOp oIx (aVar 0) (aC (.int 0))) (aVar 1)) (aVar 0) (aC (.int 0)))
 (aRet (aMove 2))))
 aNext)
 (aSeq (aAsg 3 (aN (aC (.int 0))))
 (aSeq (aFor (aIR1 (rCons (aOp oAdd (aC (.int 1)) (aOp oDiv (aUn oBits (aVar 1)) (aC (.int 30)))) rNil)) (.nm 4)
 (aSeq (aSetIx (aOp oAdd (aOp oIx (aVar 0) (aC (.int 2))) (aC (.int 1))) (aVar 0) (aC (.int 2)))
 (aAsg 3 (aN (aOp oAdd (aOp oMul (aVar 3) (aC (.int 2147483587))) (aFz (aCall ea0 2 sp_law_mixed (aCons (aOp oIx (aVar 0) (aC (.int 1))) (aCons (aOp oIx (aVar 0) (aC (.int 2))) aNil)))))))))
 (aRet (aN (aOp oMod (aVar 3) (aVar 1)))))))
theorem go_law_draw {w0 w1 : W} {st : List Cell} {A : Zi.N → List Cell → Prop} {Ea : XA} (h : ab_law_draw Ea ⟨fun s => A (.w (.d .non)) s.st, A, fun _ => False, fun _ => False⟩ ⟨[.v w0, .v w1, .no, .no, .no], st⟩) : aFn 5 ab_law_draw [w0, w1] st A Ea := h
def sp_law_draw : ASp := fun ws st A _ => ∃ (p : Nat) (n a b c : Int), ws = [.loc p, .d (.int n)] ∧ 1 ≤ n ∧ n < 1073741824 ∧ st[p]? = some (Pur a b c) ∧ PurOk a b c ∧ c + 2 ≤ 1000000 ∧
  ∀ r a' b' c' : Int, 0 ≤ r → r < n → PurOk a' b' c' → c ≤ c' → c' ≤ c + 2 → A (.w (.d (.int r))) (st.set p (Pur a' b' c'))
theorem red_law_draw (ws st A Ea) (_ : ws.length = 2) (h : sp_law_draw ws st A Ea) : aFn 5 ab_law_draw ws st A Ea := by
  obtain ⟨p, n, a, b, c, rfl, hn, hn2, hp, ⟨a0, b0, b1, c0⟩, hc, q⟩ := h
  refine go_law_draw ?_
  unfold ab_law_draw
  walk_at "z"
  have hb : (Builtin.Int.intBits n : Int) ≤ 30 := by
    have := PyProof.Rows.intBits_le (a := n) (k := 30) (by omega)
    omega
  have hb0 : (0 : Int) ≤ (Builtin.Int.intBits n : Int) := Int.natCast_nonneg _
  split
  · refine ⟨by omega, ⟨by omega, hn2⟩, ?_⟩
    exact q _ _ _ _ (Int.emod_nonneg _ (by omega)) (Int.emod_lt_of_pos _ (by omega)) ⟨Int.ediv_nonneg a0 (by omega), b0, b1, c0⟩ (Int.le_refl _) (by omega)
  · refine ⟨⟨by decide, by decide⟩, ⟨by omega, by omega⟩, ?_⟩
    refine forGo_ind (fun ds s => ∃ m y c', s = ⟨[.v (.loc p), .v (.d (.int n)), .no, .v (.d (.int m)), y], st.set p (Pur a b c')⟩ ∧ PurOk a b c' ∧ c ≤ c' ∧ c' + ds.length ≤ c + 2) ?_ ?_ _ _ ⟨0, .no, c, ?_⟩
    · rintro s ⟨m, y, c', rfl, hp', h1, h2⟩
      walk_at "z"
      exact ⟨by omega, q _ _ _ _ (Int.emod_nonneg _ (by omega)) (Int.emod_lt_of_pos _ (by omega)) hp' h1 (by simpa using h2)⟩
    · rintro d ds s k hk ⟨m, y, c', rfl, hp', h1, h2⟩
      have hl : p < st.length := (List.getElem?_eq_some_iff.mp hp).1
      have e0 : (st.set p (Pur a b c'))[p]? = some (Pur a b c') := List.getElem?_set_self hl
      have e1 : ∀ x y, ((st.set p x).set p y)[p]? = some y := fun x y => List.getElem?_set_self (by rw [List.length_set]; exact hl)
      simp only [q_bind_nm, List.set_cons_succ, List.set_cons_zero]
      walk_at "z"
      refine ⟨.inr ⟨by decide, by decide⟩, b, c' + 1, rfl, b0, b1, by have := hp'.2.2.2; omega, by simp only [List.length_cons] at h2; omega, fun r r0 r1 => ?_⟩
      walk_at "z"
      refine hk _ ⟨_, _, c' + 1, rfl, ⟨a0, b0, b1, by have := hp'.2.2.2; omega⟩, by omega, ?_⟩
      simp only [List.length_cons] at h2; omega
    · refine ⟨?_, ⟨a0, b0, b1, c0⟩, Int.le_refl _, ?_⟩
      · rw [set_same hp]
      · rw [upto_length]; omega
theorem ok_law_draw (T : Top K mg) : FnOk P w K mg base CX0 2 T.a_law_draw T.fd_law_draw ["_law_purse_here", "_law_out_of"] (SpA 2 sp_law_draw) := by
  refine T.F_law_draw.ok sc_law_draw (fun vs H Q E h => SpA.len h) (fun cdv A outer s H vs Q E hr h => ?_)
  refine ⟨_, (pss_cons (ps_if (pt_cmpR op_gt (pe_ix (ix_seqK K rfl) (pv 0) pe_int (fun _ _ => rfl)) pe_int (nomark _)) (pss_cons (ps_set (i := 2) sc_law_draw.nd rfl (Or.inl rfl) (pe_op op_mod (pe_ix (ix_seqK K rfl) (pv 0) pe_int (fun _ _ => rfl)) (pv 1)))
 (pss_cons (ps_asg (pe_op op_fdiv (pe_ix (ix_seqK K rfl) (pv 0) pe_int (fun _ _ => rfl)) (pv 1)) (pg_sub (pv 0) pe_int set_list))
 (pss_one (ps_ret (pv 2))))) pss_nil)
 (pss_cons (ps_set (i := 3) sc_law_draw.nd rfl (Or.inl rfl) pe_int)
 (pss_cons (ps_for PassesOwn.never rfl (pi_range1 rfl T.z_range (pa_cons (pe_op op_add pe_int (pe_op op_fdiv (pe_bits (pv 1)) pe_int)) pa_nil)) (pg_name (i := 4) sc_law_draw.nd rfl (Or.inl rfl)) (pss_cons (ps_asg (pe_op op_add (pe_ix (ix_seqK K rfl) (pv 0) pe_int (fun _ _ => rfl)) pe_int) (pg_sub (pv 0) pe_int set_list))
 (pss_one (ps_set (i := 3) sc_law_draw.nd rfl (Or.inl rfl) (pe_op op_add (pe_op op_mul (pv 3) pe_int) (pe_call (ok_law_mixed T) (hr.mono (by decide)) (by rfl) T.g_law_mixed T.F_law_mixed.kp T.b_law_mixed .nil pass0 (pa_cons (pe_ix (ix_seqK K rfl) (pv 0) pe_int (fun _ _ => rfl)) (pa_cons (pe_ix (ix_seqK K rfl) (pv 0) pe_int (fun _ _ => rfl)) pa_nil))))))))
 (pss_one (ps_ret (pe_op op_mod (pv 3) (pv 1))))))), fn_read (N := ["_law_purse_here", "_law_out_of", "_law_drawn", "_law_number", "_law_k"]) (ab := ab_law_draw) (fun ea => ?_) red_law_draw h⟩
  unfold ab_law_draw
  exact (RS.seq (RS.ifs (RT.test (RE.op oGt_ok (RE.op oIx_ok RE.var RE.int) RE.int))
 (RS.seq (RS.asg (RN.of (RE.op oMod_ok (RE.op oIx_ok RE.var RE.int) RE.var)))
 (RS.seq (RS.setIx (RE.op oDiv_ok (RE.op oIx_ok RE.var RE.int) RE.var) RE.var RE.int)
 (RS.ret RN.move)))
 RS.next)
 (RS.seq (RS.asg (RN.of RE.int))
 (RS.seq (RS.for (RI.rng1 (RR.cons (RE.op oAdd_ok RE.int (RE.op oDiv_ok (RE.bits RE.var) RE.int)) RR.nil)) RG.nm
 (RS.seq (RS.setIx (RE.op oAdd_ok (RE.op oIx_ok RE.var RE.int) RE.int) RE.var RE.int)
 (RS.asg (RN.of (RE.op oAdd_ok (RE.op oMul_ok RE.var RE.int) (RE.fz (RN.call0 (asp := sp_law_mixed) (RA.cons (RE.op oIx_ok RE.var RE.int) (RA.cons (RE.op oIx_ok RE.var RE.int) RA.nil)))))))))
 (RS.ret (RN.of (RE.op oMod_ok RE.var RE.var))))))
/-! ### data that may be compared -/
def okE (d : D) : Prop := (py d).plain = true ∧ (py d).depth ≤ 58
theorem depthAll_le {n : Nat} : ∀ {ds : List PyData}, (∀ d ∈ ds, d.depth ≤ n) → PyData.depthAll ds ≤ n
  | [], _ => Nat.zero_le _
  | d :: ds, h => by
    rw [PyData.depthAll]
    exact Nat.max_le.mpr ⟨h d (List.mem_cons_self ..), depthAll_le fun x hx => h x (List.mem_cons_of_mem _ hx)⟩
theorem plainAll_iff : ∀ {ds : List PyData}, PyData.plainAll ds = true ↔ ∀ d ∈ ds, d.plain = true
  | [] => ⟨fun _ _ h => (nomatch h), fun _ => rfl⟩
  | d :: ds => by
    rw [PyData.plainAll, Bool.and_eq_true, plainAll_iff]
    exact ⟨fun h x hx => (List.mem_cons.mp hx).elim (fun z => z ▸ h.1) (fun z => h.2 x z), fun h => ⟨h d (List.mem_cons_self ..), fun x hx => h x (List.mem_cons_of_mem _ hx)⟩⟩
theorem okD_lst {ds : List D} (h : ∀ d ∈ ds, okE d) : okD (.lst ds) = true := by
  unfold okD
  rw [Bool.and_eq_true]
  refine ⟨?_, decide_eq_true ?_⟩
  · show (PyData.list (pyAll ds)).plain = true
    rw [PyData.plain, pyAll_map, plainAll_iff]
    intro d hd
    obtain ⟨e, he, rfl⟩ := List.mem_map.mp hd
    exact (h e he).1
  · show (PyData.list (pyAll ds)).depth ≤ 60
    have : PyData.depthAll (pyAll ds) ≤ 58 := depthAll_le fun d hd => by
      rw [pyAll_map] at hd
      obtain ⟨e, he, rfl⟩ := List.mem_map.mp hd
      exact (h e he).2
    rw [PyData.depth]; omega
theorem okE.d {d : D} (h : okE d) : okD d = true := by
  unfold okD
  rw [h.1, decide_eq_true (Nat.le_trans h.2 (by decide))]; rfl
theorem eqD_nil {ds : List D} : eqD (.lst ds) (.lst []) = ds.isEmpty := by
  unfold eqD
  simp only [py, pyAll, PyData.eqv]
  cases ds with
  | nil => simp [pyAll, PyData.eqvAll]
  | cons d ds => simp [pyAll, PyData.eqvAll]
theorem seqIx {j n : Nat} (h : j < n) : seqIndex? (j : Int) n = some j := by
  unfold seqIndex?
  have : ¬ ((j : Int) < 0) := by omega
  simp only [this, if_false]
  have h2 : (decide (0 ≤ (j : Int)) && decide ((j : Int) < (n : Int))) = true := by
    rw [Bool.and_eq_true]
    exact ⟨decide_eq_true (by omega), decide_eq_true (by omega)⟩
  rw [if_pos h2]
  rfl
theorem perm_erase {α : Type} : ∀ {l : List α} {j : Nat} {d : α}, l[j]? = some d → ([d] ++ l.eraseIdx j).Perm l
  | [], _, _, h => by simp at h
  | a :: l, 0, d, h => by
    have : a = d := by simpa using h
    subst this
    exact List.Perm.refl _
  | a :: l, j + 1, d, h => by
    have ih := perm_erase (l := l) (j := j) (d := d) (by simpa using h)
    show (d :: a :: l.eraseIdx j).Perm (a :: l)
    exact (List.Perm.swap a d _).trans (List.Perm.cons a ih)
def ab_law_order : XA → ASt := fun ea =>
 (aSeq (aAsg 2 (aCBL bList (rCons (aVar 1) rNil)))
 (aSeq (aAsg 3 (aLst aNil))
 (aSeq (aWhile (aT (aOp oNe (aVar 2) (aFz (aLst aNil))))
 (aDrop (aBM mAppend (aVar 3) (aCons (aBM mPopAt (aVar 2) (aCons (aFz (aCall ea0 2 sp_law_draw (aConsL (aVar 0) (aCons (aCB bLen (rCons (aVar 2) rNil)) aNil)))) aNil)) aNil))))
 (aRet (aMove 3)))))
theorem go_law_order {w0 w1 : W} {st : List Cell} {A : Zi.N → List Cell → Prop} {Ea : XA} (h : ab_law_order Ea ⟨fun s => A (.w (.d .non)) s.st, A, fun _ => False, fun _ => False⟩ ⟨[.v w0, .v w1, .no, .no], st⟩) : aFn 4 ab_law_order [w0, w1] st A Ea := h
def sp_law_order : ASp := fun ws st A _ => ∃ (p : Nat) (ds : List D) (a b c : Int), ws = [.loc p, .d (.lst ds)] ∧ (∀ d ∈ ds, okE d) ∧ ds.length ≤ 1000 ∧ st[p]? = some (Pur a b c) ∧ PurOk a b c ∧ c + 2 * ds.length ≤ 1000000 ∧
  ∀ (ds' : List D) (a' b' c' : Int), ds'.Perm ds → PurOk a' b' c' → c ≤ c' → c' ≤ c + 2 * ds.length → A (.new (.lst ds')) (st.set p (Pur a' b' c'))
theorem red_law_order (ws st A Ea) (_ : ws.length = 2) (h : sp_law_order ws st A Ea) : aFn 4 ab_law_order ws st A Ea := by
  obtain ⟨p, ds, a, b, c, rfl, hok, hl, hp, hpo, hc, q⟩ := h
  have hpl : p < st.length := (List.getElem?_eq_some_iff.mp hp).1
  refine go_law_order ?_
  unfold ab_law_order
  walk_at "z"
  refine while_ind (fun m s => ∃ rest found a' b' c', s = ⟨[.v (.loc p), .v (.d (.lst ds)), .own (.lst rest), .own (.lst found)], st.set p (Pur a' b' c')⟩ ∧ m = rest.length ∧ (found ++ rest).Perm ds ∧ PurOk a' b' c' ∧ c ≤ c' ∧ c' + 2 * rest.length ≤ c + 2 * ds.length) ?_ ds.length _ ?_
  · rintro m s k hk ⟨rest, found, a', b', c', rfl, rfl, pm, hpo', h1, h2⟩
    have hok' : ∀ d ∈ rest, okE d := fun d hd => hok d (pm.mem_iff.mp (List.mem_append_right _ hd))
    have hlen : found.length + rest.length = ds.length := by rw [← List.length_append]; exact pm.length_eq
    walk_at "z"
    refine ⟨okD_lst hok', ?_⟩
    rw [eqD_nil]
    cases rest with
    | nil =>
      simp only [List.isEmpty_nil, Bool.not_true, Bool.false_eq_true, if_false]
      rw [List.append_nil] at pm
      exact q _ _ _ _ pm hpo' h1 (by simpa using h2)
    | cons d0 rest =>
      simp only [List.isEmpty_cons, Bool.not_false, if_true]
      have hlr : (d0 :: rest).length ≤ 1000 := by omega
      have hne : 1 ≤ (d0 :: rest).length := by simp
      refine ⟨p, _, _, _, _, rfl, by omega, by omega, List.getElem?_set_self hpl, hpo', by omega, fun r a2 b2 c2 r0 r1 po2 h3 h4 => ?_⟩
      obtain ⟨j, rfl⟩ := Int.eq_ofNat_of_zero_le r0
      have hj : j < (d0 :: rest).length := by omega
      have ej := List.getElem?_eq_getElem hj
      have sj := seqIx hj
      have pe := perm_erase ej
      have le := List.length_eraseIdx_of_lt hj
      generalize (d0 :: rest)[j] = dj at *
      generalize hr' : d0 :: rest = rest0 at *
      walk_at "z"
      refine ⟨by omega, by omega, by show found.length < 16777216; omega, ?_⟩
      refine hk _ _ ?_ ⟨_, _, a2, b2, c2, rfl, rfl, ?_, po2, by omega, by omega⟩
      · omega
      · refine List.Perm.trans ?_ pm
        rw [List.append_assoc]
        exact List.Perm.append_left _ pe
  · exact ⟨ds, [], a, b, c, by rw [set_same hp], rfl, by simp, hpo, Int.le_refl _, Int.le_refl _⟩
theorem ok_law_order (T : Top K mg) : FnOk P w K mg base CX0 3 T.a_law_order T.fd_law_order ["_law_purse_here", "_law_some"] (SpA 2 sp_law_order) := by
  refine T.F_law_order.ok sc_law_order (fun vs H Q E h => SpA.len h) (fun cdv A outer s H vs Q E hr h => ?_)
  refine ⟨_, (pss_cons (ps_set (i := 2) sc_law_order.nd rfl (Or.inl rfl) (pe_callTy (call_listK K rfl) (by rfl) T.z_list (by decide +kernel) (pa_cons (pv 1) pa_nil)))
 (pss_cons (ps_set (i := 3) sc_law_order.nd rfl (Or.inl rfl) (pe_lst pa_nil))
 (pss_cons (ps_while PassesOwn.never (pt_cmpR (op_neQ hr.units) (pv 2) (pe_lst pa_nil) (nomark _)) (pss_one (ps_expr (bmK K rfl (pe_bm PySem.F.plainAttrs_list PySem.F.slot_list_append PySem.F.type_list_append mt_append (pv 3) (pa_cons (bmK K rfl (pe_bm PySem.F.plainAttrs_list PySem.F.slot_list_pop PySem.F.type_list_pop mt_popAt (pv 2) (pa_cons (pe_call (ok_law_draw T) (hr.mono (by decide)) (by rfl) T.g_law_draw T.F_law_draw.kp T.b_law_draw .nil pass0 (pa_cons (pv 0) (pa_cons (pe_callB (call_lenK K rfl) (by rfl) T.z_len (by decide +kernel) (pa_cons (pv 2) pa_nil)) pa_nil))) pa_nil))) pa_nil))))))
 (pss_one (ps_ret (pv 3)))))), fn_read (N := ["_law_purse_here", "_law_some", "_law_rest", "_law_found"]) (ab := ab_law_order) (fun ea => ?_) red_law_order h⟩
  unfold ab_law_order
  exact (RS.seq (RS.asg (RN.cb bList_ok (RR.cons RE.var RR.nil)))
 (RS.seq (RS.asg (RN.lst RA.nil))
 (RS.seq (RS.while (RT.test (RE.op oNe_ok RE.var (RE.fz (RN.lst RA.nil))))
 (RS.drop (RE.bm mAppend_ok RE.var (RA.cons (RE.bm mPopAt_ok RE.var (RA.cons (RE.fz (RN.call0 (asp := sp_law_draw) (RA.consL RE.var (RA.cons (RE.cb bLen_ok (RR.cons RE.var RR.nil)) RA.nil)))) RA.nil)) RA.nil))))
 (RS.ret RN.move))))
end

abbrev w [Zi.Wd] : World := Zi.Wd.w
end K13

set_option Elab.async false
set_option linter.all false
set_option maxRecDepth 100000
set_option maxHeartbeats 400000
set_option pp.deepTerms false
set_option pp.maxSteps 400
namespace K13
open PySem PySem.Spec PyProof.Rows L2 Ly Zi Zs Lc K06
open PySem.W (minD AlikeAll)
local macro_rules | `(tactic| walk_at "z") => `(tactic| simp (config := { dsimp := false }) only [aSeq, aIf, aT, aYes, aAnd, aOr, aNot, aOp, aOpL, aUn, aVar, aC, aRaw, aMove, pk, q_peek_w, q_peek_s, q_peekW_d, q_peekW_loc, q_cellD_lst, q_cellD_dic, ↓q_toW_w, q_toW_w, ↓q_toW_s, q_toW_s, ↓q_toL_w, q_toL_w, ↓q_toL_s, q_toL_s, ↓q_nToW_w, q_nToW_w, ↓q_nToW_lst, q_nToW_lst, ↓q_nToW_dic, q_nToW_dic, q_put_w, q_put_n, q_getC_loc, q_getC_s, q_putC_loc, q_putC_s, aFz, aN, aAsg, aAsgT, q_bind_nm, q_bind_tp, q_binds_nil, q_binds_cons, aRet, aRetN, aDrop, aDropN, aNext, aBreak, aCont, aAug, aSetIx, aDPut, aCall, aCons, aConsL, aNil, aLst, aTup, lstC, wsD, rCons, rNil, pks, aCB, aCBL, aBM, aBM0, isL, mAppend, mPop, mPopAt,
  aSlL, aSlT, aRevL, aNo, aSome, aAndV, aOrV, aNotV, aIfE, aChain, aDIn, aDGet, aDNew, withDic, Zi.keyOf, cut2, part32, eqD_str, inD2, all_str2, aFor, aForE, comesBack, aLc, aSortSet, aPutS, aCl, aIL, aIT, aIR1, aIR2, aIE, aIZ, aIS, wipeE, backE,
  q_cellD_dit, q_nToW_dit, q_key_int, aXGet, aXIn, aXGet1, aXNew, aXPut, aXSetd, withX, bXLen, aIXK, aIXI, aXDict, aXOne, aXDc, aXEmit, aNLen, aNEmit, aFld, aSetF, aMake, aAugS, bAll, bAny, bSum, bInt, aTupOf, aLenSet, oRep, aCallD, aCallN, aTupW, aIxW, aAsgW, eqI2, eqI3, aLenW, aDead, bLenS, aConsN, nToL, w0s, bindWs, W0.w, oAdd, oSub, oMul, oMulW, oMod, oDiv, oDivW, oPow, oLt, oLe, oGt, oGe, oI, oIc, oEq, oNe, oIn, oIx, oCat, oAddS, oInS, oIs, oIsNot, oIsB, oIsNB, Zi.isNon, oNeg, oBits, bLen, bList, bMax2, bMin2, bMin, aIsi, aSetSl, tyN, kit_NoneType_bool, kit_NoneType_int, kit_NoneType_str, kit_NoneType_list, kit_NoneType_tuple, kit_NoneType_dict, kit_bool_bool, kit_bool_int, kit_bool_str, kit_bool_list, kit_bool_tuple, kit_bool_dict, kit_int_bool, kit_int_int, kit_int_str, kit_int_list, kit_int_tuple, kit_int_dict, kit_str_bool, kit_str_int, kit_str_str, kit_str_list, kit_str_tuple, kit_str_dict, kit_list_bool, kit_list_int, kit_list_str, kit_list_list, kit_list_tuple, kit_list_dict, kit_tuple_bool, kit_tuple_int, kit_tuple_str, kit_tuple_list, kit_tuple_tuple, kit_tuple_dict, kit_dict_bool, kit_dict_int, kit_dict_str, kit_dict_list, kit_dict_tuple, kit_dict_dict, 
  List.getElem?_cons_zero, List.getElem?_cons_succ, List.set_cons_zero, List.set_cons_succ, List.length_cons, List.length_nil, List.set_set, List.getElem?_set_self, Nat.zero_le, okD_nil, okD_str, okD_int, okD_bl, okD_non, ea0, at0, at1, at2, at3, ix0, ix1, ix2, true_and, and_true, Bool.false_eq_true, Bool.not_true, Bool.not_false, ↓reduceIte, *])
local macro_rules | `(tactic| walk_at "y") => `(tactic| simp only [aSeq, aIf, aT, aYes, aAnd, aOr, aNot, aOp, aOpL, aUn, aVar, aC, aRaw, aMove, pk, q_peek_w, q_peek_s, q_peekW_d, q_peekW_loc, q_cellD_lst, q_cellD_dic, ↓q_toW_w, q_toW_w, ↓q_toW_s, q_toW_s, ↓q_toL_w, q_toL_w, ↓q_toL_s, q_toL_s, ↓q_nToW_w, q_nToW_w, ↓q_nToW_lst, q_nToW_lst, ↓q_nToW_dic, q_nToW_dic, q_put_w, q_put_n, q_getC_loc, q_getC_s, q_putC_loc, q_putC_s, aFz, aN, aAsg, aAsgT, q_bind_nm, q_bind_tp, q_binds_nil, q_binds_cons, aRet, aRetN, aDrop, aDropN, aNext, aBreak, aCont, aAug, aSetIx, aDPut, aCall, aCons, aConsL, aNil, aLst, aTup, lstC, wsD, rCons, rNil, pks, aCB, aCBL, aBM, aBM0, isL, mAppend, mPop, mPopAt,
  aSlL, aSlT, aRevL, aNo, aSome, aAndV, aOrV, aNotV, aIfE, aChain, aDIn, aDGet, aDNew, withDic, Zi.keyOf, cut2, part32, eqD_str, inD2, all_str2, aFor, aForE, comesBack, aLc, aSortSet, aPutS, aCl, aIL, aIT, aIR1, aIR2, aIE, aIZ, aIS, wipeE, backE,
  q_cellD_dit, q_nToW_dit, q_key_int, aXGet, aXIn, aXGet1, aXNew, aXPut, aXSetd, withX, bXLen, aIXK, aIXI, aXDict, aXOne, aXDc, aXEmit, aNLen, aNEmit, aFld, aSetF, aMake, aAugS, bAll, bAny, bSum, bInt, aTupOf, aLenSet, oRep, aCallD, aCallN, aTupW, aIxW, aAsgW, eqI2, eqI3, aLenW, aDead, bLenS, aConsN, nToL, w0s, bindWs, W0.w, oAdd, oSub, oMul, oMulW, oMod, oDiv, oDivW, oPow, oLt, oLe, oGt, oGe, oI, oIc, oEq, oNe, oIn, oIx, oCat, oAddS, oInS, oIs, oIsNot, oIsB, oIsNB, Zi.isNon, oNeg, oBits, bLen, bList, bMax2, bMin2, bMin, aIsi, aSetSl, tyN, kit_NoneType_bool, kit_NoneType_int, kit_NoneType_str, kit_NoneType_list, kit_NoneType_tuple, kit_NoneType_dict, kit_bool_bool, kit_bool_int, kit_bool_str, kit_bool_list, kit_bool_tuple, kit_bool_dict, kit_int_bool, kit_int_int, kit_int_str, kit_int_list, kit_int_tuple, kit_int_dict, kit_str_bool, kit_str_int, kit_str_str, kit_str_list, kit_str_tuple, kit_str_dict, kit_list_bool, kit_list_int, kit_list_str, kit_list_list, kit_list_tuple, kit_list_dict, kit_tuple_bool, kit_tuple_int, kit_tuple_str, kit_tuple_list, kit_tuple_tuple, kit_tuple_dict, kit_dict_bool, kit_dict_int, kit_dict_str, kit_dict_list, kit_dict_tuple, kit_dict_dict, 
  List.getElem?_cons_zero, List.getElem?_cons_succ, List.set_cons_zero, List.set_cons_succ, List.length_cons, List.length_nil, List.set_set, List.getElem?_set_self, Nat.zero_le, okD_nil, okD_str, okD_int, okD_bl, okD_non, ea0, at0, at1, at2, at3, ix0, ix1, ix2, true_and, and_true, Bool.false_eq_true, Bool.not_true, Bool.not_false, ↓reduceIte, *])

section
variable {P : Program} [Zi.Wd] {K : PySem.W.Frag} {mg : Str → Option Value} {base : Heap}

theorem size1000 {n : Nat} (h : n ≤ 1000) : n ≤ sizeLine := Nat.le_trans h (by decide)
theorem size1000' {n : Nat} (h : n ≤ 1000) : n < sizeLine := Nat.lt_of_le_of_lt h (by decide)
def ab_is_name : XA → ASt := fun ea =>
 (aRet (aN (aAndV (aIsi (aVar 0) "str") (aAndV (aChain oLe oLe (aC (.int 1)) (aCB bLenS (rCons (aVar 0) rNil)) (aC (.int 8))) (aCB bAll (rCons (aFz (aLc (aIS (aVar 0)) (.nm 1) aYes (aOp oInS (aVar 1) (aC (.str "abcdefghijklmnopqrstuvwxyz"))) [1])) rNil))))))
theorem go_is_name {w0 : W} {st : List Cell} {A : Zi.N → List Cell → Prop} {Ea : XA} (h : ab_is_name Ea ⟨fun s => A (.w (.d .non)) s.st, A, fun _ => False, fun _ => False⟩ ⟨[.v w0, .no], st⟩) : aFn 2 ab_is_name [w0] st A Ea := h
def sp_is_name : ASp := fun ws st A _ => ∃ s : Str, ws = [.d (.str s)] ∧ nameOk s ∧ A (.w (.d (.bl true))) st
theorem red_is_name (ws st A Ea) (_ : ws.length = 1) (h : sp_is_name ws st A Ea) : aFn 2 ab_is_name ws st A Ea := by
  obtain ⟨s, rfl, ⟨h1, h2, h3⟩, q⟩ := h
  refine go_is_name ?_
  unfold ab_is_name
  have hl : s.cps.toList.length = s.length := rfl
  walk_at "z"
  refine ⟨size1000 (by omega), ?_⟩
  rw [if_pos (decide_eq_true (by omega)), if_pos (decide_eq_true (by omega))]
  refine lcGo_ty (fun c => D.str ⟨#[c]⟩) (fun _ => true) (fun c => D.bl (signOk ⟨#[c]⟩)) s.cps.toList (by omega) (fun x hx => ⟨_, rfl, rfl, fun A hA => hA, fun _ A hA => hA⟩) ?_
  walk_at "z"
  exact all_blsD (fun d => A (.w (.d d)) st) (fun c hc => h3 c (List.mem_filter.mp hc).1) q
theorem ok_is_name (T : Top K mg) : FnOk P w K mg base CX0 1 T.a_is_name T.fd_is_name ["thing"] (SpA 1 sp_is_name) := by
  refine T.F_is_name.ok sc_is_name (fun vs H Q E h => SpA.len h) (fun cdv A outer s H vs Q E hr h => ?_)
  refine ⟨_, (pss_one (ps_ret (pe_and (pe_callB (call_isiK' K rfl) (by rfl) T.z_isinstance (by decide +kernel) (pa_cons (pv 0) (pa_cons (pe_bltn (v := .ty "str") (by rfl) T.z_str boot_str rfl) pa_nil))) (pe_and (pe_chain op_le op_le pe_int (pe_callB call_len_str (by rfl) T.z_len (by decide +kernel) (pa_cons (pv 0) pa_nil)) (pe_glob (v := .int 8) rfl T.c_MOST_LETTERS ⟨_, rfl⟩)) (pe_one (pe_callB (cr_all rfl) (by rfl) T.z_all (by decide +kernel) (pa_cons (pe_lc (own := [("sign", 1)]) (g := gName 1) (tt := tYes) rfl sc_is_name.nd (pi_str (pv 0)) (blkOk_by (own := [("sign", 1)]) (N := ["thing", "sign"]) (sc := defScope s_is_name) (by decide +kernel)) (fun _ _ _ _ _ => (pg_name (i := 1) sc_is_name.nd rfl (Or.inl rfl))) (fun _ _ _ _ _ => pts_nil) (fun _ _ _ _ _ => (pe_cmpR op_in_str (pv 1) (pe_glob (v := .str "abcdefghijklmnopqrstuvwxyz") rfl T.c_LETTERS ⟨_, rfl⟩) (by rfl)))) pa_nil))))))), fn_read (N := ["thing", "sign"]) (ab := ab_is_name) (fun ea => ?_) red_is_name h⟩
  unfold ab_is_name
  exact (RS.ret (RN.of (RE.andV (RE.isi (by decide +kernel) RE.var) (RE.andV (RE.chain oLe_ok oLe_ok RE.int (RE.cb bLenS_ok (RR.cons RE.var RR.nil)) RE.int) (RE.cb bAll_ok (RR.cons (RE.fz (RN.lc (RI.str RE.var) RG.nm RT.yes (RE.op oInS_ok RE.var RE.str) (by decide))) RR.nil))))))
def ab_is_exchange : XA → ASt := fun ea =>
 (aSeq (aIf (aOr (aNot (aT (aIsi (aVar 0) "tuple"))) (aT (aOp oNe (aCB bLen (rCons (aVar 0) rNil)) (aC (.int 3)))))
 (aRet (aN (aC (.bl false))))
 aNext)
 (aRet (aN (aAndV (aCB bAll (rCons (aFz (aLc (aIT (aVar 0)) (.nm 1) aYes (aFz (aCall ea0 1 sp_is_name (aCons (aVar 1) aNil))) [1])) rNil)) (aOp oNe (aOp oIx (aVar 0) (aC (.int 0))) (aOp oIx (aVar 0) (aC (.int 1))))))))
theorem go_is_exchange {w0 : W} {st : List Cell} {A : Zi.N → List Cell → Prop} {Ea : XA} (h : ab_is_exchange Ea ⟨fun s => A (.w (.d .non)) s.st, A, fun _ => False, fun _ => False⟩ ⟨[.v w0, .no], st⟩) : aFn 2 ab_is_exchange [w0] st A Ea := h
def sp_is_exchange : ASp := fun ws st A _ => ∃ e : Exch, ws = [.d (exD e)] ∧ exOk e ∧ A (.w (.d (.bl true))) st
theorem red_is_exchange (ws st A Ea) (_ : ws.length = 1) (h : sp_is_exchange ws st A Ea) : aFn 2 ab_is_exchange ws st A Ea := by
  obtain ⟨e, rfl, ok, q⟩ := h
  refine go_is_exchange ?_
  unfold ab_is_exchange exD
  walk_at "z"
  refine lcGo_ty D.str (fun _ => true) (fun _ => D.bl true) [e.1, e.2.1, e.2.2] (by simp) (fun x hx => ⟨_, rfl, rfl, fun A hA => ?_, fun _ A hA => ?_⟩) ?_
  · exact hA
  · walk_at "z"
    refine ⟨x, rfl, ?_, hA⟩
    simp only [List.mem_cons, List.not_mem_nil, or_false] at hx
    rcases hx with rfl | rfl | rfl
    · exact ok.a
    · exact ok.b
    · exact ok.c
  · walk_at "z"
    simp only [List.filter_cons, List.filter_nil, if_true, List.map_cons, List.map_nil, blsD, Option.map_some, List.all_cons, List.all_nil, id, Bool.and_self]
    rw [beq_eq_false_iff_ne.mpr ok.ne]
    exact q
theorem ok_is_exchange (T : Top K mg) : FnOk P w K mg base CX0 2 T.a_is_exchange T.fd_is_exchange ["thing"] (SpA 1 sp_is_exchange) := by
  refine T.F_is_exchange.ok sc_is_exchange (fun vs H Q E h => SpA.len h) (fun cdv A outer s H vs Q E hr h => ?_)
  refine ⟨_, (pss_cons (ps_if (PW.pt (pw_or (pt_not (pt_val (pe_callB (call_isiK' K rfl) (by rfl) T.z_isinstance (by decide +kernel) (pa_cons (pv 0) (pa_cons (pe_bltn (v := .ty "tuple") (by rfl) T.z_tuple boot_tuple rfl) pa_nil))))) (pw_or1 (pt_cmpR (op_neQ hr.units) (pe_callB (call_lenK K rfl) (by rfl) T.z_len (by decide +kernel) (pa_cons (pv 0) pa_nil)) pe_int (nomark _))))) (pss_one (ps_ret pe_bl)) pss_nil)
 (pss_one (ps_ret (pe_and (pe_callB (cr_all rfl) (by rfl) T.z_all (by decide +kernel) (pa_cons (pe_lc (own := [("part", 1)]) (g := gName 1) (tt := tYes) rfl sc_is_exchange.nd (pi_tupK K rfl (pv 0)) (blkOk_by (own := [("part", 1)]) (N := ["thing", "part"]) (sc := defScope s_is_exchange) (by decide +kernel)) (fun _ _ _ _ _ => (pg_name (i := 1) sc_is_exchange.nd rfl (Or.inl rfl))) (fun _ _ _ _ _ => pts_nil) (fun _ _ _ _ _ => (pe_call (ok_is_name T) (hr.mono (by decide)) (by rfl) T.g_is_name T.F_is_name.kp T.b_is_name .nil pass0 (pa_cons (pv 1) pa_nil)))) pa_nil)) (pe_one (pe_cmpR (op_neQ hr.units) (pe_ix (ix_seqK K rfl) (pv 0) pe_int (fun _ _ => rfl)) (pe_ix (ix_seqK K rfl) (pv 0) pe_int (fun _ _ => rfl)) (nomark _))))))), fn_read (N := ["thing", "part"]) (ab := ab_is_exchange) (fun ea => ?_) red_is_exchange h⟩
  unfold ab_is_exchange
  exact (RS.seq (RS.ifs (RT.or (RT.not (RT.b (RE.isi (by decide +kernel) RE.var))) (RT.test (RE.op oNe_ok (RE.cb bLen_ok (RR.cons RE.var RR.nil)) RE.int)))
 (RS.ret (RN.of RE.bl))
 RS.next)
 (RS.ret (RN.of (RE.andV (RE.cb bAll_ok (RR.cons (RE.fz (RN.lc (RI.tup RE.var) RG.nm RT.yes (RE.fz (RN.call0 (asp := sp_is_name) (RA.cons RE.var RA.nil))) (by decide))) RR.nil)) (RE.op oNe_ok (RE.op oIx_ok RE.var RE.int) (RE.op oIx_ok RE.var RE.int))))))
def ab_is_number : XA → ASt := fun ea =>
 (aRet (aN (aAndV (aIsi (aVar 0) "int") (aAndV (aNotV (aIsi (aVar 0) "bool")) (aChain oLe oLt (aC (.int 0)) (aVar 0) (aVar 1))))))
theorem go_is_number {w0 w1 : W} {st : List Cell} {A : Zi.N → List Cell → Prop} {Ea : XA} (h : ab_is_number Ea ⟨fun s => A (.w (.d .non)) s.st, A, fun _ => False, fun _ => False⟩ ⟨[.v w0, .v w1], st⟩) : aFn 2 ab_is_number [w0, w1] st A Ea := h
def sp_is_number : ASp := fun ws st A _ => ∃ n c : Nat, ws = [.d (natD n), .d (natD c)] ∧ n < c ∧ A (.w (.d (.bl true))) st
theorem red_is_number (ws st A Ea) (_ : ws.length = 2) (h : sp_is_number ws st A Ea) : aFn 2 ab_is_number ws st A Ea := by
  obtain ⟨n, c, rfl, hn, q⟩ := h
  refine go_is_number ?_
  unfold ab_is_number
  walk_at "z"
  rw [if_pos (decide_eq_true (by omega)), decide_eq_true (show (n : Int) < (c : Int) by omega)]
  exact q
theorem ok_is_number (T : Top K mg) : FnOk P w K mg base CX0 1 T.a_is_number T.fd_is_number ["thing", "count"] (SpA 2 sp_is_number) := by
  refine T.F_is_number.ok sc_is_number (fun vs H Q E h => SpA.len h) (fun cdv A outer s H vs Q E hr h => ?_)
  refine ⟨_, (pss_one (ps_ret (pe_and (pe_callB (call_isiK' K rfl) (by rfl) T.z_isinstance (by decide +kernel) (pa_cons (pv 0) (pa_cons (pe_bltn (v := .ty "int") (by rfl) T.z_int boot_int rfl) pa_nil))) (pe_and (pe_not (pe_callB (call_isiK' K rfl) (by rfl) T.z_isinstance (by decide +kernel) (pa_cons (pv 0) (pa_cons (pe_bltn (v := .ty "bool") (by rfl) T.z_bool boot_bool rfl) pa_nil)))) (pe_one (pe_chain op_le op_lt pe_int (pv 0) (pv 1))))))), fn_read (N := ["thing", "count"]) (ab := ab_is_number) (fun ea => ?_) red_is_number h⟩
  unfold ab_is_number
  exact (RS.ret (RN.of (RE.andV (RE.isi (by decide +kernel) RE.var) (RE.andV (RE.notV (RE.isi (by decide +kernel) RE.var)) (RE.chain oLe_ok oLt_ok RE.int RE.var RE.var)))))
def ab_are_ways : XA → ASt := fun ea =>
 (aSeq (aFor (aIL (aVar 0)) (.nm 2)
 (aSeq (aIf (aOr (aNot (aT (aIsi (aVar 2) "tuple"))) (aT (aOp oNe (aCB bLen (rCons (aVar 2) rNil)) (aC (.int 2)))))
 (aRet (aN (aC (.bl false))))
 aNext)
 (aSeq (aAsgT (.tp [(.nm 3), (.nm 4)]) (aVar 2))
 (aIf (aOr (aNot (aT (aFz (aCall ea0 1 sp_is_exchange (aCons (aVar 3) aNil))))) (aNot (aT (aFz (aCall ea0 2 sp_is_number (aCons (aVar 4) (aCons (aVar 1) aNil)))))))
 (aRet (aN (aC (.bl false))))
 aNext))))
 (aRet (aN (aOp oEq (aNLen (aIL (aVar 0)) (.tp [(.nm 3), (.nm 4)]) aYes (aNEmit (aVar 3)) [3, 4]) (aCB bLen (rCons (aVar 0) rNil))))))
theorem go_are_ways {w0 w1 : W} {st : List Cell} {A : Zi.N → List Cell → Prop} {Ea : XA} (h : ab_are_ways Ea ⟨fun s => A (.w (.d .non)) s.st, A, fun _ => False, fun _ => False⟩ ⟨[.v w0, .v w1, .no, .no, .no], st⟩) : aFn 5 ab_are_ways [w0, w1] st A Ea := h
def sp_are_ways : ASp := fun ws st A _ => ∃ (l : List Way) (n : Nat), ws = [.d (.lst (l.map wayL)), .d (natD n)] ∧ (∀ w ∈ l, exOk w.1 ∧ w.2 < n) ∧ (keys l).Nodup ∧ l.length ≤ 50 ∧ A (.w (.d (.bl true))) st
theorem red_are_ways (ws st A Ea) (_ : ws.length = 2) (h : sp_are_ways ws st A Ea) : aFn 5 ab_are_ways ws st A Ea := by
  obtain ⟨l, n, rfl, ok, nd, hl, q⟩ := h
  refine go_are_ways ?_
  unfold ab_are_ways
  walk_at "z"
  refine forGo_ty wayL (fun pre ys s => ∃ y2 y3 y4, s = ⟨[.v (.d (.lst (l.map wayL))), .v (.d (natD n)), y2, y3, y4], st⟩) l ?_ ?_ _ ⟨_, _, _, rfl⟩
  · rintro s ⟨y2, y3, y4, rfl⟩
    walk_at "z"
    refine cgGo_ty wayL (fun pre ys s acc => s = ⟨[.v (.d (.lst (l.map wayL))), .v (.d (natD n)), y2, .no, .no], st⟩ ∧ acc = (keys pre).reverse.map exD) l ?_ ?_ _ _ ⟨rfl, rfl⟩
    · rintro s acc ⟨rfl, rfl⟩
      walk_at "z"
      rw [List.length_map, List.length_reverse, List.length_map, eqD_int]
      unfold keys
      rw [List.length_map, decide_eq_true rfl]
      exact q
    · rintro pre x ys s acc k' e1 hk ⟨rfl, rfl⟩
      have hp : pre.length + (ys.length + 1) = l.length := by rw [e1, List.length_append, List.length_cons]
      have ni : x.1 ∉ (keys pre).reverse := by
        rw [e1] at nd
        unfold keys at nd ⊢
        rw [List.map_append, List.map_cons, List.nodup_append] at nd
        intro z
        exact nd.2.2 _ (List.mem_reverse.mp z) _ List.mem_cons_self rfl
      have ew : wayL x = .tup [exD x.1, natD x.2] := rfl
      rw [ew]
      clear e1
      walk_at "z"
      simp only [key_ex]
      refine ⟨by rw [List.length_map, List.length_reverse]; unfold keys; rw [List.length_map]; omega, hk _ _ ⟨rfl, ?_⟩⟩
      rw [plus_ex ni]
      unfold keys
      rw [List.map_append, List.reverse_append]
      rfl
  · rintro pre x ys s k e1 hk ⟨y2, y3, y4, rfl⟩
    have hx : x ∈ l := by rw [e1]; simp
    have ew : wayL x = .tup [exD x.1, natD x.2] := rfl
    rw [ew]
    clear e1
    walk_at "z"
    refine ⟨x.1, rfl, (ok x hx).1, ?_⟩
    walk_at "z"
    refine ⟨x.2, n, rfl, (ok x hx).2, ?_⟩
    walk_at "z"
    exact hk _ ⟨_, _, _, rfl⟩
theorem ok_are_ways (T : Top K mg) : FnOk P w K mg base CX0 3 T.a_are_ways T.fd_are_ways ["ways", "count"] (SpA 2 sp_are_ways) := by
  refine T.F_are_ways.ok sc_are_ways (fun vs H Q E h => SpA.len h) (fun cdv A outer s H vs Q E hr h => ?_)
  refine ⟨_, (pss_cons (ps_for PassesOwn.never rfl (pi_listK K rfl (pv 0)) (pg_name (i := 2) sc_are_ways.nd rfl (Or.inl rfl)) (pss_cons (ps_if (PW.pt (pw_or (pt_not (pt_val (pe_callB (call_isiK' K rfl) (by rfl) T.z_isinstance (by decide +kernel) (pa_cons (pv 2) (pa_cons (pe_bltn (v := .ty "tuple") (by rfl) T.z_tuple boot_tuple rfl) pa_nil))))) (pw_or1 (pt_cmpR (op_neQ hr.units) (pe_callB (call_lenK K rfl) (by rfl) T.z_len (by decide +kernel) (pa_cons (pv 2) pa_nil)) pe_int (nomark _))))) (pss_one (ps_ret pe_bl)) pss_nil)
 (pss_cons (ps_asg (pv 2) (pg_tup (by rfl) (pgs_cons (pg_name (i := 3) sc_are_ways.nd rfl (Or.inl rfl)) (pgs_cons (pg_name (i := 4) sc_are_ways.nd rfl (Or.inl rfl)) pgs_nil))))
 (pss_one (ps_if (PW.pt (pw_or (pt_not (pt_val (pe_call (ok_is_exchange T) (hr.mono (by decide)) (by rfl) T.g_is_exchange T.F_is_exchange.kp T.b_is_exchange .nil pass0 (pa_cons (pv 3) pa_nil)))) (pw_or1 (pt_not (pt_val (pe_call (ok_is_number T) (hr.mono (by decide)) (by rfl) T.g_is_number T.F_is_number.kp T.b_is_number .nil pass0 (pa_cons (pv 4) (pa_cons (pv 1) pa_nil)))))))) (pss_one (ps_ret pe_bl)) pss_nil)))))
 (pss_one (ps_ret (pe_cmpR (op_eqQ hr.units) (pe_callB cr_nlen (by rfl) T.z_len (by decide +kernel) (pa_cons (Zs.pe_comp (own := [("exchange", 3), ("state", 4)]) (g := gTup _ 2 (gCons (gName 3) (gCons (gName 4) gNil))) (tt := tYes) (ho := setNO []) (.set _) rfl rfl sc_are_ways.nd (by decide) (pi_listK K rfl (pv 0)) (blkOk_by (own := [("exchange", 3), ("state", 4)]) (N := ["ways", "count", "way", "exchange", "state"]) (sc := defScope s_are_ways) (by decide +kernel)) (fun _ _ _ h => newSet_at h) (fun _ h _ => setN_ok (setN_new h)) (fun _ _ _ _ _ => (pg_tup (by rfl) (pgs_cons (pg_name (i := 3) sc_are_ways.nd rfl (Or.inl rfl)) (pgs_cons (pg_name (i := 4) sc_are_ways.nd rfl (Or.inl rfl)) pgs_nil)))) (fun _ _ _ _ _ => pts_nil) (fun _ _ _ _ _ Dn => (emit_set (r := rNPut Dn) rfl (pv 3) (nput_ok rfl hr.units))) (by decide)) pa_nil)) (pe_callB (call_lenK K rfl) (by rfl) T.z_len (by decide +kernel) (pa_cons (pv 0) pa_nil)) (nomark _))))), fn_read (N := ["ways", "count", "way", "exchange", "state"]) (ab := ab_are_ways) (fun ea => ?_) red_are_ways h⟩
  unfold ab_are_ways
  exact (RS.seq (RS.for (RI.list RE.var) RG.nm
 (RS.seq (RS.ifs (RT.or (RT.not (RT.b (RE.isi (by decide +kernel) RE.var))) (RT.test (RE.op oNe_ok (RE.cb bLen_ok (RR.cons RE.var RR.nil)) RE.int)))
 (RS.ret (RN.of RE.bl))
 RS.next)
 (RS.seq (RS.asgT RE.var (RG.tp (RGs.cons RG.nm (RGs.cons RG.nm RGs.nil)) rfl))
 (RS.ifs (RT.or (RT.not (RT.b (RE.fz (RN.call0 (asp := sp_is_exchange) (RA.cons RE.var RA.nil))))) (RT.not (RT.b (RE.fz (RN.call0 (asp := sp_is_number) (RA.cons RE.var (RA.cons RE.var RA.nil)))))))
 (RS.ret (RN.of RE.bl))
 RS.next))))
 (RS.ret (RN.of (RE.op oEq_ok (RE.nlen (RI.list RE.var) (RG.tp (RGs.cons RG.nm (RGs.cons RG.nm RGs.nil)) rfl) RT.yes (RCg.nemit RE.var) (by decide)) (RE.cb bLen_ok (RR.cons RE.var RR.nil))))))
theorem okE_rowL (r : Row) : okE (rowL r) := by
  have h : ∀ d ∈ r.2.map wayL, (py d).plain = true ∧ (py d).depth ≤ 2 := fun d hd => by
    obtain ⟨w, _, rfl⟩ := List.mem_map.mp hd
    exact ⟨rfl, by show (2 : Nat) ≤ 2; decide⟩
  have h1 : PyData.plainAll (pyAll (r.2.map wayL)) = true := by
    rw [pyAll_map, plainAll_iff]
    intro x hx
    obtain ⟨d, hd, rfl⟩ := List.mem_map.mp hx
    exact (h d hd).1
  have h2 : PyData.depthAll (pyAll (r.2.map wayL)) ≤ 2 := depthAll_le fun d hd => by
    rw [pyAll_map] at hd
    obtain ⟨e, he, rfl⟩ := List.mem_map.mp hd
    exact (h e he).2
  refine ⟨?_, ?_⟩
  · show PyData.plainAll [.bool r.1, .list (pyAll (r.2.map wayL))] = true
    simp [PyData.plainAll, PyData.plain, h1]
  · show PyData.depth (.tuple [.bool r.1, .list (pyAll (r.2.map wayL))]) ≤ 58
    simp only [PyData.depth, PyData.depthAll]
    omega
theorem okD_tabL (t : Tab) : okD (tabL t) = true := okD_lst fun d hd => by
  obtain ⟨r, _, rfl⟩ := List.mem_map.mp hd
  exact okE_rowL r
def ab_must_rows : XA → ASt := fun ea =>
 (aSeq (aIf (aOr (aNot (aT (aIsi (aVar 0) "list"))) (aT (aOp oEq (aVar 0) (aFz (aLst aNil)))))
 aDead
 aNext)
 (aFor (aIL (aVar 0)) (.nm 1)
 (aSeq (aIf (aOr (aNot (aT (aIsi (aVar 1) "tuple"))) (aOr (aT (aOp oNe (aCB bLen (rCons (aVar 1) rNil)) (aC (.int 2)))) (aNot (aT (aIsi (aOp oIx (aVar 1) (aC (.int 0))) "bool")))))
 aDead
 aNext)
 (aIf (aOr (aNot (aT (aIsi (aOp oIx (aVar 1) (aC (.int 1))) "list"))) (aNot (aT (aFz (aCall ea0 2 sp_are_ways (aCons (aOp oIx (aVar 1) (aC (.int 1))) (aCons (aCB bLen (rCons (aVar 0) rNil)) aNil)))))))
 aDead
 aNext))))
theorem go_must_rows {w0 : W} {st : List Cell} {A : Zi.N → List Cell → Prop} {Ea : XA} (h : ab_must_rows Ea ⟨fun s => A (.w (.d .non)) s.st, A, fun _ => False, fun _ => False⟩ ⟨[.v w0, .no], st⟩) : aFn 2 ab_must_rows [w0] st A Ea := h
def sp_must_rows : ASp := fun ws st A _ => ∃ t : Tab, ws = [.d (tabL t)] ∧ RowsOk t ∧ A (.w (.d .non)) st
theorem red_must_rows (ws st A Ea) (_ : ws.length = 1) (h : sp_must_rows ws st A Ea) : aFn 2 ab_must_rows ws st A Ea := by
  obtain ⟨t, rfl, ok, q⟩ := h
  refine go_must_rows ?_
  unfold ab_must_rows
  have e0 := okD_tabL t
  unfold tabL at e0 ⊢
  have ne : eqD (.lst (t.map rowL)) (.lst []) = false := by
    rw [eqD_nil]
    cases t with
    | nil => exact absurd ok.pos (by decide)
    | cons r t => rfl
  walk_at "z"
  refine forGo_ty rowL (fun pre ys s => ∃ y, s = ⟨[.v (.d (.lst (t.map rowL))), y], st⟩) t ?_ ?_ _ ⟨_, rfl⟩
  · rintro s ⟨y, rfl⟩
    exact q
  · rintro pre r ys s k e1 hk ⟨y, rfl⟩
    have hr : r ∈ t := by rw [e1]; simp
    have ew : rowL r = .tup [.bl r.1, .lst (r.2.map wayL)] := rfl
    rw [ew]
    clear e1
    walk_at "z"
    refine ⟨r.2, t.length, ?_, fun w hw => ⟨ok.ex r hr w hw, ok.lt r hr w hw⟩, ok.nd r hr, ok.fw r hr, ?_⟩
    · rw [List.length_map]
    walk_at "z"
    exact hk _ ⟨_, rfl⟩
theorem ok_must_rows (T : Top K mg) : FnOk P w K mg base CX0 4 T.a_must_rows T.fd_must_rows ["rows"] (SpA 1 sp_must_rows) := by
  refine T.F_must_rows.ok sc_must_rows (fun vs H Q E h => SpA.len h) (fun cdv A outer s H vs Q E hr h => ?_)
  refine ⟨_, (pss_cons (ps_if (PW.pt (pw_or (pt_not (pt_val (pe_callB (call_isiK' K rfl) (by rfl) T.z_isinstance (by decide +kernel) (pa_cons (pv 0) (pa_cons (pe_bltn (v := .ty "list") (by rfl) T.z_list boot_list rfl) pa_nil))))) (pw_or1 (pt_cmpR (op_eqQ hr.units) (pv 0) (pe_lst pa_nil) (nomark _))))) (pss_one ps_dead) pss_nil)
 (pss_one (ps_for PassesOwn.never rfl (pi_listK K rfl (pv 0)) (pg_name (i := 1) sc_must_rows.nd rfl (Or.inl rfl)) (pss_cons (ps_if (PW.pt (pw_or (pt_not (pt_val (pe_callB (call_isiK' K rfl) (by rfl) T.z_isinstance (by decide +kernel) (pa_cons (pv 1) (pa_cons (pe_bltn (v := .ty "tuple") (by rfl) T.z_tuple boot_tuple rfl) pa_nil))))) (pw_or (pt_cmpR (op_neQ hr.units) (pe_callB (call_lenK K rfl) (by rfl) T.z_len (by decide +kernel) (pa_cons (pv 1) pa_nil)) pe_int (nomark _)) (pw_or1 (pt_not (pt_val (pe_callB (call_isiK' K rfl) (by rfl) T.z_isinstance (by decide +kernel) (pa_cons (pe_ix (ix_seqK K rfl) (pv 1) pe_int (fun _ _ => rfl)) (pa_cons (pe_bltn (v := .ty "bool") (by rfl) T.z_bool boot_bool rfl) pa_nil))))))))) (pss_one ps_dead) pss_nil)
 (pss_one (ps_if (PW.pt (pw_or (pt_not (pt_val (pe_callB (call_isiK' K rfl) (by rfl) T.z_isinstance (by decide +kernel) (pa_cons (pe_ix (ix_seqK K rfl) (pv 1) pe_int (fun _ _ => rfl)) (pa_cons (pe_bltn (v := .ty "list") (by rfl) T.z_list boot_list rfl) pa_nil))))) (pw_or1 (pt_not (pt_val (pe_call (ok_are_ways T) (hr.mono (by decide)) (by rfl) T.g_are_ways T.F_are_ways.kp T.b_are_ways .nil pass0 (pa_cons (pe_ix (ix_seqK K rfl) (pv 1) pe_int (fun _ _ => rfl)) (pa_cons (pe_callB (call_lenK K rfl) (by rfl) T.z_len (by decide +kernel) (pa_cons (pv 0) pa_nil)) pa_nil)))))))) (pss_one ps_dead) pss_nil)))))), fn_read (N := ["rows", "row"]) (ab := ab_must_rows) (fun ea => ?_) red_must_rows h⟩
  unfold ab_must_rows
  exact (RS.seq (RS.ifs (RT.or (RT.not (RT.b (RE.isi (by decide +kernel) RE.var))) (RT.test (RE.op oEq_ok RE.var (RE.fz (RN.lst RA.nil)))))
 RS.deadD
 RS.next)
 (RS.for (RI.list RE.var) RG.nm
 (RS.seq (RS.ifs (RT.or (RT.not (RT.b (RE.isi (by decide +kernel) RE.var))) (RT.or (RT.test (RE.op oNe_ok (RE.cb bLen_ok (RR.cons RE.var RR.nil)) RE.int)) (RT.not (RT.b (RE.isi (by decide +kernel) (RE.op oIx_ok RE.var RE.int))))))
 RS.deadD
 RS.next)
 (RS.ifs (RT.or (RT.not (RT.b (RE.isi (by decide +kernel) (RE.op oIx_ok RE.var RE.int)))) (RT.not (RT.b (RE.fz (RN.call0 (asp := sp_are_ways) (RA.cons (RE.op oIx_ok RE.var RE.int) (RA.cons (RE.cb bLen_ok (RR.cons RE.var RR.nil)) RA.nil)))))))
 RS.deadD
 RS.next))))
end
end K13

set_option Elab.async false
set_option linter.all false
set_option maxRecDepth 100000
set_option maxHeartbeats 400000
set_option pp.deepTerms false
set_option pp.maxSteps 400
namespace K13
open PySem PySem.Spec PyProof.Rows L2 Ly Zi Zs Lc K06
open PySem.W (minD AlikeAll)
local macro_rules | `(tactic| walk_at "z") => `(tactic| simp (config := { dsimp := false }) only [aSeq, aIf, aT, aYes, aAnd, aOr, aNot, aOp, aOpL, aUn, aVar, aC, aRaw, aMove, pk, q_peek_w, q_peek_s, q_peekW_d, q_peekW_loc, q_cellD_lst, q_cellD_dic, ↓q_toW_w, q_toW_w, ↓q_toW_s, q_toW_s, ↓q_toL_w, q_toL_w, ↓q_toL_s, q_toL_s, ↓q_nToW_w, q_nToW_w, ↓q_nToW_lst, q_nToW_lst, ↓q_nToW_dic, q_nToW_dic, q_put_w, q_put_n, q_getC_loc, q_getC_s, q_putC_loc, q_putC_s, aFz, aN, aAsg, aAsgT, q_bind_nm, q_bind_tp, q_binds_nil, q_binds_cons, aRet, aRetN, aDrop, aDropN, aNext, aBreak, aCont, aAug, aSetIx, aDPut, aCall, aCons, aConsL, aNil, aLst, aTup, lstC, wsD, rCons, rNil, pks, aCB, aCBL, aBM, aBM0, isL, mAppend, mPop, mPopAt,
  aSlL, aSlT, aRevL, aNo, aSome, aAndV, aOrV, aNotV, aIfE, aChain, aDIn, aDGet, aDNew, withDic, Zi.keyOf, cut2, part32, eqD_str, inD2, all_str2, aFor, aForE, comesBack, aLc, aSortSet, aPutS, aCl, aIL, aIT, aIR1, aIR2, aIE, aIZ, aIS, wipeE, backE,
  q_cellD_dit, q_nToW_dit, q_key_int, aXGet, aXIn, aXGet1, aXNew, aXPut, aXSetd, withX, bXLen, aIXK, aIXI, aXDict, aXOne, aXDc, aXEmit, aNLen, aNEmit, aFld, aSetF, aMake, aAugS, bAll, bAny, bSum, bInt, aTupOf, aLenSet, oRep, aCallD, aCallN, aTupW, aIxW, aAsgW, eqI2, eqI3, aLenW, aDead, bLenS, aConsN, nToL, w0s, bindWs, W0.w, oAdd, oSub, oMul, oMulW, oMod, oDiv, oDivW, oPow, oLt, oLe, oGt, oGe, oI, oIc, oEq, oNe, oIn, oIx, oCat, oAddS, oInS, oIs, oIsNot, oIsB, oIsNB, Zi.isNon, oNeg, oBits, bLen, bList, bMax2, bMin2, bMin, aIsi, aSetSl, tyN, kit_NoneType_bool, kit_NoneType_int, kit_NoneType_str, kit_NoneType_list, kit_NoneType_tuple, kit_NoneType_dict, kit_bool_bool, kit_bool_int, kit_bool_str, kit_bool_list, kit_bool_tuple, kit_bool_dict, kit_int_bool, kit_int_int, kit_int_str, kit_int_list, kit_int_tuple, kit_int_dict, kit_str_bool, kit_str_int, kit_str_str, kit_str_list, kit_str_tuple, kit_str_dict, kit_list_bool, kit_list_int, kit_list_str, kit_list_list, kit_list_tuple, kit_list_dict, kit_tuple_bool, kit_tuple_int, kit_tuple_str, kit_tuple_list, kit_tuple_tuple, kit_tuple_dict, kit_dict_bool, kit_dict_int, kit_dict_str, kit_dict_list, kit_dict_tuple, kit_dict_dict, 
  List.getElem?_cons_zero, List.getElem?_cons_succ, List.set_cons_zero, List.set_cons_succ, List.length_cons, List.length_nil, List.set_set, List.getElem?_set_self, Nat.zero_le, okD_nil, okD_str, okD_int, okD_bl, okD_non, ea0, at0, at1, at2, at3, ix0, ix1, ix2, true_and, and_true, Bool.false_eq_true, Bool.not_true, Bool.not_false, ↓reduceIte, *])
local macro_rules | `(tactic| walk_at "y") => `(tactic| simp only [aSeq, aIf, aT, aYes, aAnd, aOr, aNot, aOp, aOpL, aUn, aVar, aC, aRaw, aMove, pk, q_peek_w, q_peek_s, q_peekW_d, q_peekW_loc, q_cellD_lst, q_cellD_dic, ↓q_toW_w, q_toW_w, ↓q_toW_s, q_toW_s, ↓q_toL_w, q_toL_w, ↓q_toL_s, q_toL_s, ↓q_nToW_w, q_nToW_w, ↓q_nToW_lst, q_nToW_lst, ↓q_nToW_dic, q_nToW_dic, q_put_w, q_put_n, q_getC_loc, q_getC_s, q_putC_loc, q_putC_s, aFz, aN, aAsg, aAsgT, q_bind_nm, q_bind_tp, q_binds_nil, q_binds_cons, aRet, aRetN, aDrop, aDropN, aNext, aBreak, aCont, aAug, aSetIx, aDPut, aCall, aCons, aConsL, aNil, aLst, aTup, lstC, wsD, rCons, rNil, pks, aCB, aCBL, aBM, aBM0, isL, mAppend, mPop, mPopAt,
  aSlL, aSlT, aRevL, aNo, aSome, aAndV, aOrV, aNotV, aIfE, aChain, aDIn, aDGet, aDNew, withDic, Zi.keyOf, cut2, part32, eqD_str, inD2, all_str2, aFor, aForE, comesBack, aLc, aSortSet, aPutS, aCl, aIL, aIT, aIR1, aIR2, aIE, aIZ, aIS, wipeE, backE,
  q_cellD_dit, q_nToW_dit, q_key_int, aXGet, aXIn, aXGet1, aXNew, aXPut, aXSetd, withX, bXLen, aIXK, aIXI, aXDict, aXOne, aXDc, aXEmit, aNLen, aNEmit, aFld, aSetF, aMake, aAugS, bAll, bAny, bSum, bInt, aTupOf, aLenSet, oRep, aCallD, aCallN, aTupW, aIxW, aAsgW, eqI2, eqI3, aLenW, aDead, bLenS, aConsN, nToL, w0s, bindWs, W0.w, oAdd, oSub, oMul, oMulW, oMod, oDiv, oDivW, oPow, oLt, oLe, oGt, oGe, oI, oIc, oEq, oNe, oIn, oIx, oCat, oAddS, oInS, oIs, oIsNot, oIsB, oIsNB, Zi.isNon, oNeg, oBits, bLen, bList, bMax2, bMin2, bMin, aIsi, aSetSl, tyN, kit_NoneType_bool, kit_NoneType_int, kit_NoneType_str, kit_NoneType_list, kit_NoneType_tuple, kit_NoneType_dict, kit_bool_bool, kit_bool_int, kit_bool_str, kit_bool_list, kit_bool_tuple, kit_bool_dict, kit_int_bool, kit_int_int, kit_int_str, kit_int_list, kit_int_tuple, kit_int_dict, kit_str_bool, kit_str_int, kit_str_str, kit_str_list, kit_str_tuple, kit_str_dict, kit_list_bool, kit_list_int, kit_list_str, kit_list_list, kit_list_tuple, kit_list_dict, kit_tuple_bool, kit_tuple_int, kit_tuple_str, kit_tuple_list, kit_tuple_tuple, kit_tuple_dict, kit_dict_bool, kit_dict_int, kit_dict_str, kit_dict_list, kit_dict_tuple, kit_dict_dict, 
  List.getElem?_cons_zero, List.getElem?_cons_succ, List.set_cons_zero, List.set_cons_succ, List.length_cons, List.length_nil, List.set_set, List.getElem?_set_self, Nat.zero_le, okD_nil, okD_str, okD_int, okD_bl, okD_non, ea0, at0, at1, at2, at3, ix0, ix1, ix2, true_and, and_true, Bool.false_eq_true, Bool.not_true, Bool.not_false, ↓reduceIte, *])

section
variable {P : Program} [Zi.Wd] {K : PySem.W.Frag} {mg : Str → Option Value} {base : Heap}

theorem atI_map {α : Type} {f : α → D} {l : List α} {i : Nat} {x : α} (h : l[i]? = some x) : L2.atI (l.map f) (i : Int) = some (f x) := atI_nat (by rw [List.getElem?_map, h]; rfl)
def ab_reached : XA → ASt := fun ea =>
 (aSeq (aAsg 1 (aLst (aCons (aC (.int 0)) aNil)))
 (aSeq (aAsg 2 (aXOne 0 (.int 0)))
 (aSeq (aAsg 3 (aN (aC (.int 0))))
 (aSeq (aWhile (aT (aOp oLt (aVar 3) (aCB bLen (rCons (aVar 1) rNil))))
 (aSeq (aAsg 4 (aN (aOp oIx (aOp oIx (aVar 0) (aOp oIx (aVar 1) (aVar 3))) (aC (.int 1)))))
 (aSeq (aFor (aIL (aFz (aCBL bXSort (rCons (aVar 4) rNil)))) (.nm 5)
 (aIf (aT (aXIn true (aXGet (aVar 4) (aVar 5)) (aVar 2)))
 (aSeq (aXPut (aVar 2) (aXGet (aVar 4) (aVar 5)) (aCB bLen (rCons (aVar 1) rNil)))
 (aDrop (aBM mAppend (aVar 1) (aCons (aXGet (aVar 4) (aVar 5)) aNil))))
 aNext))
 (aAug 3 (fun i j => i + j) (aC (.int 1))))))
 (aRet (aMove 1))))))
theorem go_reached {w0 : W} {st : List Cell} {A : Zi.N → List Cell → Prop} {Ea : XA} (h : ab_reached Ea ⟨fun s => A (.w (.d .non)) s.st, A, fun _ => False, fun _ => False⟩ ⟨[.v w0, .no, .no, .no, .no, .no], st⟩) : aFn 6 ab_reached [w0] st A Ea := h
def sp_reached : ASp := fun ws st A _ => ∃ t : Tab, ws = [.d (tabD t)] ∧ TabOk t ∧ A (.new (.lst ((reachF t).map natD))) st
theorem red_reached (ws st A Ea) (_ : ws.length = 1) (h : sp_reached ws st A Ea) : aFn 6 ab_reached ws st A Ea := by
  obtain ⟨t, rfl, T, q⟩ := h
  refine go_reached ?_
  unfold ab_reached
  walk_at "z"
  have few := T.few
  refine ⟨by decide, ?_⟩
  refine while_ind (fun m s => ∃ k kds y4 y5, s = ⟨[.v (.d (tabD t)), .own (.lst ((reachN t k).map natD)), .own (.dit false kds), .v (.d (natD k)), y4, y5], st⟩ ∧ kds.map (·.1) = (reachN t k).map natD ∧ k ≤ (reachN t k).length ∧ m + k = t.length) ?_ t.length _ ⟨0, _, _, _, rfl, rfl, Nat.zero_le _, rfl⟩
  rintro m s k' hk ⟨k, kds, y4, y5, rfl, e1, h1, h2⟩
  have hl := reachN_len T k
  have hok := reachN_ok T k
  walk_at "z"
  rw [List.length_map]
  by_cases lt : k < (reachN t k).length
  · rw [if_pos (decide_eq_true (by omega))]
    have a1 : (reachN t k)[k]? = some (reachN t k)[k] := List.getElem?_eq_getElem lt
    have a2 : (reachN t k)[k] < t.length := hok.2 _ (List.mem_of_getElem? a1)
    have a3 : reachN t (k + 1) = stepR t (reachN t k) (reachN t k)[k] := by
      show (match (reachN t k)[k]? with | some s => _ | none => _) = _
      rw [a1]
    generalize (reachN t k)[k] = s at a1 a2 a3
    have b1 := atI_map (f := natD) a1
    have b2 := atI_map (f := rowD) (row_at a2)
    have b3 : rowD (row t s) = .tup [.bl (row t s).1, waysD (row t s).2] := rfl
    unfold tabD
    rw [b3] at b2
    walk_at "z"
    refine bXSort_ways ?_
    clear b1 b2 b3
    refine forGo_ty exD (fun pre ys s' => ∃ acc kds y5, s' = ⟨[.v (.d (.lst (t.map rowD))), .own (.lst (acc.map natD)), .own (.dit false kds), .v (.d (natD k)), .v (.d (waysD (row t s).2)), y5], st⟩ ∧ kds.map (·.1) = acc.map natD ∧ acc = (pre.map (getW (row t s).2)).foldl (fun a w => add1 a w.2) (reachN t k)) _ ?_ ?_ _ ⟨_, _, _, rfl, e1, rfl⟩
    · rintro s' ⟨acc, kds', y5', rfl, e2, e3⟩
      rw [← wsS_eq] at e3
      have e4 : acc = reachN t (k + 1) := e3.trans a3.symm
      clear e3
      have hk4 := hk (m - 1) ⟨[.v (.d (.lst (t.map rowD))), .own (.lst (acc.map natD)), .own (.dit false kds'), .v (.d (.int ((k : Int) + 1))), .v (.d (waysD (row t s).2)), y5'], st⟩ (by omega) ⟨k + 1, kds', _, _, by rw [e4]; rfl, by rw [e2, e4], ?_, by omega⟩
      · clear hk e2 e4
        walk_at "z"
      · rw [a3]
        exact Nat.le_trans lt adds_len
    · rintro pre x ys s' k2 e0 hk2 ⟨acc, kds', y5', rfl, e2, e3⟩
      have hx : x ∈ sortE (keys (row t s).2) := by rw [e0]; simp
      have c1 := dlook_ways hx
      have c2 : waysD (row t s).2 = .dit true ((dP exD natD (row t s).2).map (·.1)) ((dP exD natD (row t s).2).map (·.2)) := rfl
      have c3 : (getW (row t s).2 x).2 < t.length := T.lts s _ (lookA_mem (look_key hx))
      have hsub : ∀ w ∈ pre.map (getW (row t s).2), w.2 < t.length := fun w hw => by
        obtain ⟨e, he, rfl⟩ := List.mem_map.mp hw
        exact T.lts s _ (lookA_mem (look_key (by rw [e0]; simp [he])))
      have hacc := adds_ok hok.1 hok.2 hsub
      rw [← e3] at hacc
      have hal := nodup_few hacc.1 hacc.2
      have kl : kds'.length = acc.length := by have := congrArg List.length e2; simpa using this
      have c4 := dlook_some (n := (getW (row t s).2 x).2) e2
      have e5 : (pre ++ [x]).map (getW (row t s).2) = pre.map (getW (row t s).2) ++ [getW (row t s).2 x] := by rw [List.map_append]; rfl
      generalize getW (row t s).2 x = g at *
      have hk3 : ∀ acc' kds y5, kds.map (·.1) = acc'.map natD → acc' = add1 acc g.2 → k2 ⟨[.v (.d (.lst (t.map rowD))), .own (.lst (acc'.map natD)), .own (.dit false kds), .v (.d (natD k)), .v (.d (waysD (row t s).2)), y5], st⟩ := fun acc' kds y5 h1 h2 => hk2 _ ⟨acc', kds, y5, rfl, h1, by rw [e5, List.foldl_append, ← e3]; exact h2⟩
      have e6 := fun v h => putD_keys (n := g.2) (v := v) e2 h
      have e7 := e2
      clear hk2 e0 e5 hk a3 e1 hsub hx e2 e3
      revert e7
      rw [c2] at hk3 ⊢
      walk_at "z"
      simp only [key_ex, c1, c4, q_key_int]
      intro e7
      by_cases z : g.2 ∈ acc
      · rw [decide_eq_true z]
        exact hk3 acc kds' _ e7 (by unfold add1; rw [if_pos z])
      · rw [decide_eq_false z]
        refine ⟨size1000' (by omega), by rw [List.length_map]; exact size1000' (by omega), ?_⟩
        have := hk3 (acc ++ [g.2]) _ (.v (.d (exD x))) (e6 (D.int ↑(List.map natD acc).length) z) (by unfold add1; rw [if_neg z])
        rw [List.map_append] at this
        exact this
  · rw [if_neg (fun z => lt (by have := of_decide_eq_true z; omega))]
    have e4 := reachF_eq T (k := k) (by omega) (by omega)
    rw [e4] at q
    exact q
theorem ok_reached (T : Top K mg) : FnOk P w K mg base CX0 1 T.a_reached T.fd_reached ["rows"] (SpA 1 sp_reached) := by
  refine T.F_reached.ok sc_reached (fun vs H Q E h => SpA.len h) (fun cdv A outer s H vs Q E hr h => ?_)
  refine ⟨_, (pss_cons (ps_set (i := 1) sc_reached.nd rfl (Or.inl rfl) (pe_lst (pa_cons pe_int pa_nil)))
 (pss_cons (ps_set (i := 2) sc_reached.nd rfl (Or.inl rfl) (pe_xone_int rfl))
 (pss_cons (ps_set (i := 3) sc_reached.nd rfl (Or.inl rfl) pe_int)
 (pss_cons (ps_while PassesOwn.never (pt_cmpR op_lt (pv 3) (pe_callB (call_lenK K rfl) (by rfl) T.z_len (by decide +kernel) (pa_cons (pv 1) pa_nil)) (nomark _)) (pss_cons (ps_set (i := 4) sc_reached.nd rfl (Or.inl rfl) (pe_ix (ix_seqK K rfl) (pe_ix (ix_seqK K rfl) (pv 0) (pe_ix (ix_seqK K rfl) (pv 1) (pv 3) (fun _ _ => rfl)) (fun _ _ => rfl)) pe_int (fun _ _ => rfl)))
 (pss_cons (ps_for PassesOwn.never rfl (pi_listK K rfl (pe_callB (cr_xsortK K rfl rfl hr.units) (by rfl) T.z_sorted (by decide +kernel) (pa_cons (pv 4) pa_nil))) (pg_name (i := 5) sc_reached.nd rfl (Or.inl rfl)) (pss_one (ps_if (pt_cmp (pc_xnin rfl hr.units (pe_xget rfl hr.units (pv 4) (pv 5) (fun _ _ => rfl)) (pv 2))) (pss_cons (ps_xput rfl hr.units (pv 2) (pe_xget rfl hr.units (pv 4) (pv 5) (fun _ _ => rfl)) (pe_callB (call_lenK K rfl) (by rfl) T.z_len (by decide +kernel) (pa_cons (pv 1) pa_nil)) rfl)
 (pss_one (ps_expr (bmK K rfl (pe_bm PySem.F.plainAttrs_list PySem.F.slot_list_append PySem.F.type_list_append mt_append (pv 1) (pa_cons (pe_xget rfl hr.units (pv 4) (pv 5) (fun _ _ => rfl)) pa_nil)))))) pss_nil)))
 (pss_one (ps_aug (i := 3) sc_reached.nd rfl (Or.inl rfl) pe_int ip_add)))))
 (pss_one (ps_ret (pv 1))))))), fn_read (N := ["rows", "found", "seen", "at", "ways", "exchange"]) (ab := ab_reached) (fun ea => ?_) red_reached h⟩
  unfold ab_reached
  exact (RS.seq (RS.asg (RN.lst (RA.cons RE.int RA.nil)))
 (RS.seq (RS.asg RN.xoneI)
 (RS.seq (RS.asg (RN.of RE.int))
 (RS.seq (RS.while (RT.test (RE.op oLt_ok RE.var (RE.cb bLen_ok (RR.cons RE.var RR.nil))))
 (RS.seq (RS.asg (RN.of (RE.op oIx_ok (RE.op oIx_ok RE.var (RE.op oIx_ok RE.var RE.var)) RE.int)))
 (RS.seq (RS.for (RI.list (RE.fz (RN.cb bXSort_ok (RR.cons RE.var RR.nil)))) RG.nm
 (RS.ifs (RT.b (RE.xin (RE.xget RE.var RE.var) RE.var))
 (RS.seq (RS.xput RE.var (RE.xget RE.var RE.var) (RE.cb bLen_ok (RR.cons RE.var RR.nil)))
 (RS.drop (RE.bm mAppend_ok RE.var (RA.cons (RE.xget RE.var RE.var) RA.nil))))
 RS.next))
 (RS.aug RE.int))))
 (RS.ret RN.move)))))
theorem tabF_nm (t : Tab) (f : Nat → Row) (l : List Nat) : l.map (fun s => rowD (f s)) = (l.map f).map rowD := by rw [List.map_map]; rfl
def ab_renumbered : XA → ASt := fun ea =>
 (aSeq (aAsg 1 (aCall ea0 1 sp_reached (aCons (aVar 0) aNil)))
 (aSeq (aAsg 3 (aXDc false (aIE (aCons (aVar 1) aNil)) (.tp [(.nm 7), (.nm 2)]) aYes (aXEmit false (aVar 2) (aVar 7)) [7, 2]))
 (aSeq (aAsg 4 (aLst aNil))
 (aSeq (aFor (aIL (aVar 1)) (.nm 2)
 (aSeq (aAsgT (.tp [(.nm 5), (.nm 6)]) (aOp oIx (aVar 0) (aVar 2)))
 (aDrop (aBM mAppend (aVar 4) (aCons (aTup (aCons (aVar 5) (aCons (aFz (aXDc true (aIL (aFz (aCBL bXSort (rCons (aVar 6) rNil)))) (.nm 8) aYes (aXEmit true (aVar 8) (aXGet (aVar 3) (aXGet (aVar 6) (aVar 8)))) [8])) aNil))) aNil)))))
 (aRet (aMove 4))))))
theorem go_renumbered {w0 : W} {st : List Cell} {A : Zi.N → List Cell → Prop} {Ea : XA} (h : ab_renumbered Ea ⟨fun s => A (.w (.d .non)) s.st, A, fun _ => False, fun _ => False⟩ ⟨[.v w0, .no, .no, .no, .no, .no, .no, .no, .no], st⟩) : aFn 9 ab_renumbered [w0] st A Ea := h
def sp_renumbered : ASp := fun ws st A _ => ∃ t : Tab, ws = [.d (tabD t)] ∧ TabOk t ∧ A (.new (.lst ((renumF t).map rowD))) st
theorem red_renumbered (ws st A Ea) (_ : ws.length = 1) (h : sp_renumbered ws st A Ea) : aFn 9 ab_renumbered ws st A Ea := by
  obtain ⟨t, rfl, T, q⟩ := h
  refine go_renumbered ?_
  unfold ab_renumbered
  walk_at "z"
  refine ⟨t, rfl, T, ?_⟩
  have hok := reachN_ok T t.length
  have hcl := fun s (h : s ∈ reachF t) w (hw : w ∈ wsS (row t s).2) => reachF_closed T h hw
  have hfl := reachN_len T t.length
  have ef : reachN t t.length = reachF t := rfl
  rw [ef] at hok hfl
  have eq : renumF t = (reachF t).map fun s => ((row t s).1, (sortE (keys (row t s).2)).map fun e => (e, (reachF t).idxOf (getW (row t s).2 e).2)) := by
    unfold renumF
    refine List.map_congr_left fun s _ => ?_
    rw [wsS_eq, List.map_map]; rfl
  rw [eq] at q
  clear eq ef
  have few := T.few
  generalize reachF t = F at *
  walk_at "z"
  rw [enumD_map]
  refine cgGo_dict km_nat (tD := fun p : Nat × Nat => .tup [natD p.2, natD p.1]) (kf := fun p => p.1) (vf := fun p => p.2) (vd := natD) F.zipIdx (by rw [List.length_zipIdx]; omega) (by rw [List.zipIdx_map_fst]; exact hok.1) (fun p hp => ⟨_, rfl, rfl, fun A hA => hA, fun A hA => hA⟩) ?_
  rw [show (F.zipIdx.map fun p : Nat × Nat => (p.1, p.2)) = F.zipIdx from List.map_id _]
  walk_at "z"
  refine forGo_ty natD (fun pre ys s => ∃ y2 y5 y6, s = ⟨[.v (.d (tabD t)), .v (.d (.lst (F.map natD))), y2, .own (.dit false (dP natD natD F.zipIdx)), .own (.lst ((pre.map fun s => ((row t s).1, (sortE (keys (row t s).2)).map fun e => (e, F.idxOf (getW (row t s).2 e).2))).map rowD)), y5, y6, .no, .no], st⟩) F ?_ ?_ _ ⟨_, _, _, rfl⟩
  · rintro s ⟨y2, y5, y6, rfl⟩
    walk_at "z"
  · rintro pre s ys s' k e1 hk ⟨y2, y5, y6, rfl⟩
    have hs : s ∈ F := by rw [e1]; simp
    have hlen : pre.length < 400 := by
      have : F.length = pre.length + (ys.length + 1) := by rw [e1, List.length_append, List.length_cons]
      omega
    have b2 := atI_map (f := rowD) (row_at (hok.2 s hs))
    have b3 : rowD (row t s) = .tup [.bl (row t s).1, waysD (row t s).2] := rfl
    rw [b3] at b2
    have h4 := hcl s hs
    have hw : (row t s).2.length ≤ 1000 := T.ws _ (row_mem (hok.2 s hs))
    have nd := sortE_nodup (T.nds s)
    have hk2 := hk
    clear e1 hk hcl q
    unfold tabD at hk2 ⊢
    walk_at "z"
    refine bXSort_ways ?_
    refine cgGo_dict km_ex (tD := exD) (kf := fun e => e) (vf := fun e => F.idxOf (getW (row t s).2 e).2) (vd := natD) (sortE (keys (row t s).2)) (by rw [keys_len]; exact hw) (by rw [List.map_id']; exact nd) (fun e he => ⟨_, rfl, rfl, fun A hA => hA, fun A hA => ?_⟩) ?_
    · have c1 := dlook_ways he
      have c2 : waysD (row t s).2 = .dit true ((dP exD natD (row t s).2).map (·.1)) ((dP exD natD (row t s).2).map (·.2)) := rfl
      have c3 : dlook ((dP natD natD F.zipIdx).map (·.1)) ((dP natD natD F.zipIdx).map (·.2)) (.num ((getW (row t s).2 e).2 : Int)) = some (natD (F.idxOf (getW (row t s).2 e).2)) := by
        have := dlook_dP (vd := natD) km_nat (getW (row t s).2 e).2 F.zipIdx
        rw [lookA_zip (h4 _ (by rw [wsS_eq]; exact List.mem_map.mpr ⟨e, he, rfl⟩)), Nat.zero_add] at this
        exact this
      rw [c2]
      clear hk2
      walk_at "z"
      simp only [key_ex, c1, q_key_int, c3]
      exact hA
    · have e5 : ∀ y2 y5 y6 : Sl, _ := fun y2 y5 y6 => hk2 _ ⟨y2, y5, y6, rfl⟩
      rw [List.map_append, List.map_append] at e5
      clear hk2
      walk_at "z"
      refine ⟨by decide, by rw [List.length_map, List.length_map]; exact size1000' (by omega), ?_⟩
      exact e5 _ _ _
theorem ok_renumbered (T : Top K mg) : FnOk P w K mg base CX0 2 T.a_renumbered T.fd_renumbered ["rows"] (SpA 1 sp_renumbered) := by
  refine T.F_renumbered.ok sc_renumbered (fun vs H Q E h => SpA.len h) (fun cdv A outer s H vs Q E hr h => ?_)
  refine ⟨_, (pss_cons (ps_set (i := 1) sc_renumbered.nd rfl (Or.inl rfl) (pe_call (ok_reached T) (hr.mono (by decide)) (by rfl) T.g_reached T.F_reached.kp T.b_reached .nil pass0 (pa_cons (pv 0) pa_nil)))
 (pss_cons (ps_set (i := 3) sc_renumbered.nd rfl (Or.inr rfl) (Zs.pe_comp (own := [("number", 7), ("state", 2)]) (g := gTup _ 2 (gCons (gName 7) (gCons (gName 2) gNil))) (tt := tYes) (ho := fun D => ditO false 0 D []) (.dict _ _) rfl rfl sc_renumbered.nd (by decide) (pi_enum (by rfl) T.z_enumerate (pa_cons (pv 1) pa_nil)) (blkOk_by (own := [("number", 7), ("state", 2)]) (N := ["rows", "found", "state", "number_of", "told", "ends", "ways", "number", "exchange"]) (sc := defScope s_renumbered) (by decide +kernel)) (fun _ _ _ h => newDict_at h) (fun _ h b => dit_ok (raw_new h b)) (fun _ _ _ _ _ => (pg_tup (by rfl) (pgs_cons (pg_name (i := 7) sc_renumbered.nd rfl (Or.inl rfl)) (pgs_cons (pg_name (i := 2) sc_renumbered.nd rfl (Or.inl rfl)) pgs_nil)))) (fun _ _ _ _ _ => pts_nil) (fun _ _ _ _ _ Dn => (emit_dict (r := rXPut false Dn) rfl (pv 2) (pv 7) (xput_ok rfl hr.units))) (by decide)))
 (pss_cons (ps_set (i := 4) sc_renumbered.nd rfl (Or.inl rfl) (pe_lst pa_nil))
 (pss_cons (ps_for PassesOwn.never rfl (pi_listK K rfl (pv 1)) (pg_name (i := 2) sc_renumbered.nd rfl (Or.inl rfl)) (pss_cons (ps_asg (pe_ix (ix_seqK K rfl) (pv 0) (pv 2) (fun _ _ => rfl)) (pg_tup (by rfl) (pgs_cons (pg_name (i := 5) sc_renumbered.nd rfl (Or.inl rfl)) (pgs_cons (pg_name (i := 6) sc_renumbered.nd rfl (Or.inr rfl)) pgs_nil))))
 (pss_one (ps_expr (bmK K rfl (pe_bm PySem.F.plainAttrs_list PySem.F.slot_list_append PySem.F.type_list_append mt_append (pv 4) (pa_cons (pe_tup (pa_cons (pv 5) (pa_cons (Zs.pe_comp (own := [("exchange", 8)]) (g := gName 8) (tt := tYes) (ho := fun D => ditO true 0 D []) (.dict _ _) rfl rfl sc_renumbered.nd (by decide) (pi_listK K rfl (pe_callB (cr_xsortK K rfl rfl hr.units) (by rfl) T.z_sorted (by decide +kernel) (pa_cons (pv 6) pa_nil))) (blkOk_by (own := [("exchange", 8)]) (N := ["rows", "found", "state", "number_of", "told", "ends", "ways", "number", "exchange"]) (sc := defScope s_renumbered) (by decide +kernel)) (fun _ _ _ h => newDict_at h) (fun _ h b => dit_ok (raw_new h b)) (fun _ _ _ _ _ => (pg_name (i := 8) sc_renumbered.nd rfl (Or.inl rfl))) (fun _ _ _ _ _ => pts_nil) (fun _ _ _ _ _ Dn => (emit_dict (r := rXPut true Dn) rfl (pv 8) (pe_xget rfl hr.units (pv 3) (pe_xget rfl hr.units (pv 6) (pv 8) (fun _ _ => rfl)) (fun _ _ => rfl)) (xput_ok rfl hr.units))) (by decide)) pa_nil))) pa_nil)))))))
 (pss_one (ps_ret (pv 4))))))), fn_read (N := ["rows", "found", "state", "number_of", "told", "ends", "ways", "number", "exchange"]) (ab := ab_renumbered) (fun ea => ?_) red_renumbered h⟩
  unfold ab_renumbered
  exact (RS.seq (RS.asg (RN.call0 (asp := sp_reached) (RA.cons RE.var RA.nil)))
 (RS.seq (RS.asg (RN.xdc (RI.enum (RA.cons RE.var RA.nil)) (RG.tp (RGs.cons RG.nm (RGs.cons RG.nm RGs.nil)) rfl) RT.yes (RCg.xemit RE.var RE.var) (by decide)))
 (RS.seq (RS.asg (RN.lst RA.nil))
 (RS.seq (RS.for (RI.list RE.var) RG.nm
 (RS.seq (RS.asgT (RE.op oIx_ok RE.var RE.var) (RG.tp (RGs.cons RG.nm (RGs.cons RG.nm RGs.nil)) rfl))
 (RS.drop (RE.bm mAppend_ok RE.var (RA.cons (RE.tup (RA.cons RE.var (RA.cons (RE.fz (RN.xdc (RI.list (RE.fz (RN.cb bXSort_ok (RR.cons RE.var RR.nil)))) RG.nm RT.yes (RCg.xemit RE.var (RE.xget RE.var (RE.xget RE.var RE.var))) (by decide))) RA.nil))) RA.nil)))))
 (RS.ret RN.move)))))
end
end K13

set_option Elab.async false
set_option linter.all false
set_option maxRecDepth 100000
set_option maxHeartbeats 400000
set_option pp.deepTerms false
set_option pp.maxSteps 400
namespace K13
open PySem PySem.Spec PyProof.Rows L2 Ly Zi Zs Lc K06
open PySem.W (minD AlikeAll)
local macro_rules | `(tactic| walk_at "z") => `(tactic| simp (config := { dsimp := false }) only [aSeq, aIf, aT, aYes, aAnd, aOr, aNot, aOp, aOpL, aUn, aVar, aC, aRaw, aMove, pk, q_peek_w, q_peek_s, q_peekW_d, q_peekW_loc, q_cellD_lst, q_cellD_dic, ↓q_toW_w, q_toW_w, ↓q_toW_s, q_toW_s, ↓q_toL_w, q_toL_w, ↓q_toL_s, q_toL_s, ↓q_nToW_w, q_nToW_w, ↓q_nToW_lst, q_nToW_lst, ↓q_nToW_dic, q_nToW_dic, q_put_w, q_put_n, q_getC_loc, q_getC_s, q_putC_loc, q_putC_s, aFz, aN, aAsg, aAsgT, q_bind_nm, q_bind_tp, q_binds_nil, q_binds_cons, aRet, aRetN, aDrop, aDropN, aNext, aBreak, aCont, aAug, aSetIx, aDPut, aCall, aCons, aConsL, aNil, aLst, aTup, lstC, wsD, rCons, rNil, pks, aCB, aCBL, aBM, aBM0, isL, mAppend, mPop, mPopAt,
  aSlL, aSlT, aRevL, aNo, aSome, aAndV, aOrV, aNotV, aIfE, aChain, aDIn, aDGet, aDNew, withDic, Zi.keyOf, cut2, part32, eqD_str, inD2, all_str2, aFor, aForE, comesBack, aLc, aSortSet, aPutS, aCl, aIL, aIT, aIR1, aIR2, aIE, aIZ, aIS, wipeE, backE,
  q_cellD_dit, q_nToW_dit, q_key_int, aXGet, aXIn, aXGet1, aXNew, aXPut, aXSetd, withX, bXLen, aIXK, aIXI, aXDict, aXOne, aXDc, aXEmit, aNLen, aNEmit, aFld, aSetF, aMake, aAugS, bAll, bAny, bSum, bInt, aTupOf, aLenSet, oRep, aCallD, aCallN, aTupW, aIxW, aAsgW, eqI2, eqI3, aLenW, aDead, bLenS, aConsN, nToL, w0s, bindWs, W0.w, oAdd, oSub, oMul, oMulW, oMod, oDiv, oDivW, oPow, oLt, oLe, oGt, oGe, oI, oIc, oEq, oNe, oIn, oIx, oCat, oAddS, oInS, oIs, oIsNot, oIsB, oIsNB, Zi.isNon, oNeg, oBits, bLen, bList, bMax2, bMin2, bMin, aIsi, aSetSl, tyN, kit_NoneType_bool, kit_NoneType_int, kit_NoneType_str, kit_NoneType_list, kit_NoneType_tuple, kit_NoneType_dict, kit_bool_bool, kit_bool_int, kit_bool_str, kit_bool_list, kit_bool_tuple, kit_bool_dict, kit_int_bool, kit_int_int, kit_int_str, kit_int_list, kit_int_tuple, kit_int_dict, kit_str_bool, kit_str_int, kit_str_str, kit_str_list, kit_str_tuple, kit_str_dict, kit_list_bool, kit_list_int, kit_list_str, kit_list_list, kit_list_tuple, kit_list_dict, kit_tuple_bool, kit_tuple_int, kit_tuple_str, kit_tuple_list, kit_tuple_tuple, kit_tuple_dict, kit_dict_bool, kit_dict_int, kit_dict_str, kit_dict_list, kit_dict_tuple, kit_dict_dict, 
  List.getElem?_cons_zero, List.getElem?_cons_succ, List.set_cons_zero, List.set_cons_succ, List.length_cons, List.length_nil, List.set_set, List.getElem?_set_self, Nat.zero_le, okD_nil, okD_str, okD_int, okD_bl, okD_non, ea0, at0, at1, at2, at3, ix0, ix1, ix2, true_and, and_true, Bool.false_eq_true, Bool.not_true, Bool.not_false, ↓reduceIte, *])
local macro_rules | `(tactic| walk_at "y") => `(tactic| simp only [aSeq, aIf, aT, aYes, aAnd, aOr, aNot, aOp, aOpL, aUn, aVar, aC, aRaw, aMove, pk, q_peek_w, q_peek_s, q_peekW_d, q_peekW_loc, q_cellD_lst, q_cellD_dic, ↓q_toW_w, q_toW_w, ↓q_toW_s, q_toW_s, ↓q_toL_w, q_toL_w, ↓q_toL_s, q_toL_s, ↓q_nToW_w, q_nToW_w, ↓q_nToW_lst, q_nToW_lst, ↓q_nToW_dic, q_nToW_dic, q_put_w, q_put_n, q_getC_loc, q_getC_s, q_putC_loc, q_putC_s, aFz, aN, aAsg, aAsgT, q_bind_nm, q_bind_tp, q_binds_nil, q_binds_cons, aRet, aRetN, aDrop, aDropN, aNext, aBreak, aCont, aAug, aSetIx, aDPut, aCall, aCons, aConsL, aNil, aLst, aTup, lstC, wsD, rCons, rNil, pks, aCB, aCBL, aBM, aBM0, isL, mAppend, mPop, mPopAt,
  aSlL, aSlT, aRevL, aNo, aSome, aAndV, aOrV, aNotV, aIfE, aChain, aDIn, aDGet, aDNew, withDic, Zi.keyOf, cut2, part32, eqD_str, inD2, all_str2, aFor, aForE, comesBack, aLc, aSortSet, aPutS, aCl, aIL, aIT, aIR1, aIR2, aIE, aIZ, aIS, wipeE, backE,
  q_cellD_dit, q_nToW_dit, q_key_int, aXGet, aXIn, aXGet1, aXNew, aXPut, aXSetd, withX, bXLen, aIXK, aIXI, aXDict, aXOne, aXDc, aXEmit, aNLen, aNEmit, aFld, aSetF, aMake, aAugS, bAll, bAny, bSum, bInt, aTupOf, aLenSet, oRep, aCallD, aCallN, aTupW, aIxW, aAsgW, eqI2, eqI3, aLenW, aDead, bLenS, aConsN, nToL, w0s, bindWs, W0.w, oAdd, oSub, oMul, oMulW, oMod, oDiv, oDivW, oPow, oLt, oLe, oGt, oGe, oI, oIc, oEq, oNe, oIn, oIx, oCat, oAddS, oInS, oIs, oIsNot, oIsB, oIsNB, Zi.isNon, oNeg, oBits, bLen, bList, bMax2, bMin2, bMin, aIsi, aSetSl, tyN, kit_NoneType_bool, kit_NoneType_int, kit_NoneType_str, kit_NoneType_list, kit_NoneType_tuple, kit_NoneType_dict, kit_bool_bool, kit_bool_int, kit_bool_str, kit_bool_list, kit_bool_tuple, kit_bool_dict, kit_int_bool, kit_int_int, kit_int_str, kit_int_list, kit_int_tuple, kit_int_dict, kit_str_bool, kit_str_int, kit_str_str, kit_str_list, kit_str_tuple, kit_str_dict, kit_list_bool, kit_list_int, kit_list_str, kit_list_list, kit_list_tuple, kit_list_dict, kit_tuple_bool, kit_tuple_int, kit_tuple_str, kit_tuple_list, kit_tuple_tuple, kit_tuple_dict, kit_dict_bool, kit_dict_int, kit_dict_str, kit_dict_list, kit_dict_tuple, kit_dict_dict, 
  List.getElem?_cons_zero, List.getElem?_cons_succ, List.set_cons_zero, List.set_cons_succ, List.length_cons, List.length_nil, List.set_set, List.getElem?_set_self, Nat.zero_le, okD_nil, okD_str, okD_int, okD_bl, okD_non, ea0, at0, at1, at2, at3, ix0, ix1, ix2, true_and, and_true, Bool.false_eq_true, Bool.not_true, Bool.not_false, ↓reduceIte, *])

section
variable {P : Program} [Zi.Wd] {K : PySem.W.Frag} {mg : Str → Option Value} {base : Heap}

def ab_classes_of : XA → ASt := fun ea =>
 (aSeq (aAsg 3 (aLc (aIL (aVar 0)) (.tp [(.nm 1), (.nm 2)]) aYes (aCB bInt (rCons (aVar 1) rNil)) [1, 2]))
 (aSeq (aAsg 4 (aN (aC (.int 0))))
 (aSeq (aWhile (aT (aOp oNe (aVar 4) (aLenSet (aVar 3))))
 (aSeq (aAsg 4 (aN (aLenSet (aVar 3))))
 (aSeq (aAsg 5 (aLst aNil))
 (aSeq (aFor (aIE (aCons (aVar 0) aNil)) (.tp [(.nm 6), (.tp [(.nm 1), (.nm 2)])])
 (aDrop (aBM mAppend (aVar 5) (aCons (aTup (aCons (aOp oIx (aVar 3) (aVar 6)) (aCons (aTupOf (rCons (aFz (aLc (aIL (aFz (aCBL bXSort (rCons (aVar 2) rNil)))) (.nm 9) aYes (aTup (aCons (aVar 9) (aCons (aOp oIx (aVar 3) (aXGet (aVar 2) (aVar 9))) aNil))) [9])) rNil)) aNil))) aNil))))
 (aSeq (aAsg 7 (aXNew true))
 (aSeq (aFor (aIL (aVar 5)) (.nm 8)
 (aDrop (aXSetd (aVar 7) (aVar 8) (aCB bXLen (rCons (aVar 7) rNil)))))
 (aAsg 3 (aLc (aIL (aVar 5)) (.nm 8) aYes (aXGet (aVar 7) (aVar 8)) [8]))))))))
 (aRet (aMove 3)))))
theorem go_classes_of {w0 : W} {st : List Cell} {A : Zi.N → List Cell → Prop} {Ea : XA} (h : ab_classes_of Ea ⟨fun s => A (.w (.d .non)) s.st, A, fun _ => False, fun _ => False⟩ ⟨[.v w0, .no, .no, .no, .no, .no, .no, .no, .no, .no], st⟩) : aFn 10 ab_classes_of [w0] st A Ea := h
def sp_classes_of : ASp := fun ws st A _ => ∃ t : Tab, ws = [.d (tabD t)] ∧ TabOk t ∧ A (.new (.lst ((classF t).map natD))) st
theorem red_classes_of (ws st A Ea) (_ : ws.length = 1) (h : sp_classes_of ws st A Ea) : aFn 10 ab_classes_of ws st A Ea := by
  obtain ⟨t, rfl, T, q⟩ := h
  refine go_classes_of ?_
  unfold ab_classes_of
  have few := T.few
  unfold tabD
  walk_at "z"
  refine lcGo_ty rowD (fun _ => true) (fun r => natD (if r.1 then 1 else 0)) t (by omega) (fun r hr => ⟨_, rfl, rfl, fun A hA => hA, fun _ A hA => ?_⟩) ?_
  · cases z : r.1 with
    | true => rw [z] at hA; exact hA
    | false => rw [z] at hA; exact hA
  rw [List.filter_eq_self.mpr fun _ _ => rfl, show (t.map fun r => natD (if r.1 then 1 else 0)) = (endsF t).map natD by unfold endsF; rw [List.map_map]; rfl]
  walk_at "z"
  refine while_ind (fun m s => ∃ k c y1 y2 y5 y6 y7 y8, s = ⟨[.v (.d (.lst (t.map rowD))), y1, y2, .own (.lst (c.map natD)), .v (.d (natD k)), y5, y6, y7, y8, .no], st⟩ ∧ c.length = t.length ∧ classI t m k c = classF t ∧ t.length + 1 ≤ m + k ∧ k ≤ distN c) ?_ (t.length + 1) _ ⟨0, endsF t, _, _, _, _, _, _, rfl, List.length_map .., rfl, Nat.le_refl _, Nat.zero_le _⟩
  rintro m s k' hk ⟨k, c, y1, y2, y5, y6, y7, y8, rfl, hc, hi, h1, h2⟩
  have hd := distN_le c
  have ei : intsD (c.map natD) = some (c.map fun (n : Nat) => (n : Int)) := intsD_map (fun (n : Nat) => (n : Int)) c
  have ed : (distinct (c.map fun (n : Nat) => (n : Int)) : Nat) = distN c := rfl
  walk_at "z"
  refine ⟨by rw [List.length_map]; omega, ?_⟩
  rw [eqD_int]
  by_cases z : k = distN c
  · rw [decide_eq_true (by rw [z])]
    have e : classI t m k c = c := by
      cases m with
      | zero => rfl
      | succ m => show (if k = distN c then c else _) = c; rw [if_pos z]
    rw [e] at hi
    rw [← hi] at q
    exact q
  · rw [decide_eq_false (fun e => z (Int.ofNat_inj.mp e))]
    refine ⟨by rw [List.length_map]; omega, ?_⟩
    rw [enumD_map]
    have hm : 0 < m := by omega
    have hi2 : classI t (m - 1) (distN c) (stepC t c) = classF t := by
      rw [← hi]
      cases m with
      | zero => exact absurd hm (Nat.lt_irrefl 0)
      | succ m =>
        show classI t m (distN c) (stepC t c) = if k = distN c then c else classI t m (distN c) (stepC t c)
        rw [if_neg z]
    have hmono := stepC_mono hc
    have hk2 := fun y1 y2 y5 y6 y7 y8 => hk (m - 1) _ (by omega) ⟨distN c, stepC t c, y1, y2, y5, y6, y7, y8, rfl, stepC_len t c, hi2, by omega, hmono⟩
    have T2 := T
    clear hk hi q hi2 ei ed
    refine forGo_ty (fun p : Row × Nat => D.tup [natD p.2, rowD p.1]) (fun pre ys s => ∃ y1 y2 y6, s = ⟨[.v (.d (.lst (t.map rowD))), y1, y2, .own (.lst (c.map natD)), .v (.d (natD (distN c))), .own (.lst (((List.range pre.length).map (ckOf t c)).map ckD)), y6, y7, y8, .no], st⟩) t.zipIdx ?_ ?_ _ ⟨_, _, _, rfl⟩
    · rintro s ⟨y1, y2, y6, rfl⟩
      rw [List.length_zipIdx]
      have ek : (List.range t.length).map (ckOf t c) = cksF t c := rfl
      rw [ek]
      have hcl := cks_len t c
      have est : stepC t c = (cksF t c).map fun k => (dedupC (cksF t c)).idxOf k := rfl
      have hmem : ∀ k ∈ cksF t c, k ∈ dedupC (cksF t c) := fun k hk => dedup_mem (.inl hk)
      have edd : dedupC (cksF t c) = (cksF t c).foldl (fun acc k => if k ∈ acc then acc else acc ++ [k]) [] := rfl
      rw [est] at hk2
      clear est ek hmono
      generalize cksF t c = ks at *
      walk_at "z"
      refine forGo_ty ckD (fun pre ys s => ∃ y8, s = ⟨[.v (.d (.lst (t.map rowD))), y1, y2, .own (.lst (c.map natD)), .v (.d (natD (distN c))), .v (.d (.lst (ks.map ckD))), y6, .own (.dit true (dP ckD natD (pre.foldl (fun acc k => if k ∈ acc then acc else acc ++ [k]) []).zipIdx)), y8, .no], st⟩) ks ?_ ?_ _ ⟨_, rfl⟩
      · rintro s ⟨y8, rfl⟩
        rw [← edd]
        clear edd
        walk_at "z"
        refine lcGo_ty ckD (fun _ => true) (fun k => natD ((dedupC ks).idxOf k)) ks (by omega) (fun k hk => ⟨_, rfl, rfl, fun A hA => hA, fun _ A hA => ?_⟩) ?_
        · have c1 : dlook ((dP ckD natD (dedupC ks).zipIdx).map (·.1)) ((dP ckD natD (dedupC ks).zipIdx).map (·.2)) (kC k) = some (natD ((dedupC ks).idxOf k)) := by
            rw [dlook_dP km_ck, lookA_zip (hmem k hk), Nat.zero_add]; rfl
          clear hk2
          walk_at "z"
          simp only [km_ck.kx, c1]
          exact hA
        · rw [List.filter_eq_self.mpr fun _ _ => rfl]
          have hk3 := fun y1 y2 y5 y6 y7 y8 => hk2 y1 y2 y5 y6 y7 y8
          rw [List.map_map] at hk3
          clear hk2
          walk_at "z"
          exact hk3 _ _ _ _ _ _
      · rintro pre x ys s k2 e1 hk3 ⟨y8, rfl⟩
        have hpl : pre.length < 400 := by
          have : ks.length = pre.length + (ys.length + 1) := by rw [e1, List.length_append, List.length_cons]
          omega
        have hk4 := fun y8 => hk3 _ ⟨y8, rfl⟩
        rw [List.foldl_append] at hk4
        have hal := dedup_len (ks := pre) (acc := [])
        generalize pre.foldl (fun acc k => if k ∈ acc then acc else acc ++ [k]) [] = acc at *
        have c1 := dlook_dP (vd := natD) km_ck x acc.zipIdx
        have c2 := putD_dP (vd := natD) km_ck x acc.length acc.zipIdx
        have c0 : (dP ckD natD acc.zipIdx).length = acc.length := by rw [dP_len, List.length_zipIdx]
        clear hk2 hk3 e1 hmem edd
        walk_at "z"
        refine ⟨⟨_, _, rfl⟩, ?_⟩
        simp only [km_ck.kx, c1]
        refine ⟨size1000' (by simp only [List.length_nil] at hal; omega), ?_⟩
        by_cases hx : x ∈ acc
        · rw [lookA_zip hx]
          have := hk4 (.v (.d (ckD x)))
          rw [show [x].foldl (fun acc k => if k ∈ acc then acc else acc ++ [k]) acc = acc from if_pos hx] at this
          exact this
        · rw [lookA_zip_none hx]
          have := hk4 (.v (.d (ckD x)))
          rw [show [x].foldl (fun acc k => if k ∈ acc then acc else acc ++ [k]) acc = acc ++ [x] from if_neg hx, ← putA_zip hx, ← c2] at this
          show k2 _
          rw [List.length_map, c0]
          exact this
    · rintro pre p ys s k2 e1 hk3 ⟨y1, y2, y6, rfl⟩
      obtain ⟨r, i⟩ := p
      obtain ⟨rfl, hr, _⟩ := zip_at e1
      have hi : pre.length < t.length := (List.getElem?_eq_some_iff.mp hr).1
      have er : row t pre.length = r := by
        have := row_at hi
        rw [hr] at this
        exact (Option.some.inj this).symm
      have hci : c[pre.length]? = some (c.getD pre.length 0) := by
        rw [List.getD_eq_getElem?_getD, List.getElem?_eq_getElem (by omega)]; rfl
      have b1 := atI_map (f := natD) hci
      have b2 : rowD r = .tup [.bl r.1, waysD r.2] := rfl
      have hw := T.ws _ (row_mem hi)
      have hlt := T.lts pre.length
      have hk4 := fun y1 y2 y6 => hk3 _ ⟨y1, y2, y6, rfl⟩
      rw [List.length_append, List.length_singleton, List.range_succ, List.map_append, List.map_append] at hk4
      have ek : ckOf t c pre.length = (c.getD pre.length 0, (sortE (keys r.2)).map fun e => (e, c.getD (getW r.2 e).2 0)) := by
        unfold ckOf
        rw [er, wsS_eq, List.map_map]; rfl
      have ek2 : ckD (ckOf t c pre.length) = .tup [natD (c.getD pre.length 0), .tup ((sortE (keys r.2)).map fun e => wayL (e, c.getD (getW r.2 e).2 0))] := by
        rw [ek]
        unfold ckD
        rw [List.map_map]; rfl
      rw [er] at hw hlt
      clear hk2 hk3 e1 hmono ek
      rw [b2]
      walk_at "z"
      refine bXSort_ways ?_
      refine lcGo_ty exD (fun _ => true) (fun e => wayL (e, c.getD (getW r.2 e).2 0)) (sortE (keys r.2)) (by rw [keys_len]; omega) (fun e he => ⟨_, rfl, rfl, fun A hA => hA, fun _ A hA => ?_⟩) ?_
      · have c1 := dlook_ways he
        have c2 : waysD r.2 = .dit true ((dP exD natD r.2).map (·.1)) ((dP exD natD r.2).map (·.2)) := rfl
        have hg := hlt _ (lookA_mem (look_key he))
        have hcg : c[(getW r.2 e).2]? = some (c.getD (getW r.2 e).2 0) := by
          rw [List.getD_eq_getElem?_getD, List.getElem?_eq_getElem (by omega)]; rfl
        have c3 := atI_map (f := natD) hcg
        rw [c2]
        clear hk4 b1 b2
        walk_at "z"
        simp only [key_ex, c1, c3]
        exact ⟨by decide, hA⟩
      · rw [List.filter_eq_self.mpr fun _ _ => rfl]
        clear b1 b2
        walk_at "z"
        refine ⟨by decide, by rw [List.length_map, List.length_map, List.length_range]; exact size1000' (by omega), ?_⟩
        rw [← ek2]
        exact hk4 _ _ _
theorem ok_classes_of (T : Top K mg) : FnOk P w K mg base CX0 1 T.a_classes_of T.fd_classes_of ["rows"] (SpA 1 sp_classes_of) := by
  refine T.F_classes_of.ok sc_classes_of (fun vs H Q E h => SpA.len h) (fun cdv A outer s H vs Q E hr h => ?_)
  refine ⟨_, (pss_cons (ps_set (i := 3) sc_classes_of.nd rfl (Or.inr rfl) (pe_lc (own := [("ends", 1), ("ways", 2)]) (g := gTup _ 2 (gCons (gName 1) (gCons (gName 2) gNil))) (tt := tYes) rfl sc_classes_of.nd (pi_listK K rfl (pv 0)) (blkOk_by (own := [("ends", 1), ("ways", 2)]) (N := ["rows", "ends", "ways", "found", "count", "keys", "number", "first_of", "key", "exchange"]) (sc := defScope s_classes_of) (by decide +kernel)) (fun _ _ _ _ _ => (pg_tup (by rfl) (pgs_cons (pg_name (i := 1) sc_classes_of.nd rfl (Or.inl rfl)) (pgs_cons (pg_name (i := 2) sc_classes_of.nd rfl (Or.inl rfl)) pgs_nil)))) (fun _ _ _ _ _ => pts_nil) (fun _ _ _ _ _ => (pe_callTy call_int1 (by rfl) T.z_int (by decide +kernel) (pa_cons (pv 1) pa_nil)))))
 (pss_cons (ps_set (i := 4) sc_classes_of.nd rfl (Or.inl rfl) pe_int)
 (pss_cons (ps_while PassesOwn.never (pt_cmpR (op_neQ hr.units) (pv 4) (pe_lenSet2 K rfl (by rfl) T.z_len (by rfl) T.z_set (pv 3)) (nomark _)) (pss_cons (ps_set (i := 4) sc_classes_of.nd rfl (Or.inl rfl) (pe_lenSet2 K rfl (by rfl) T.z_len (by rfl) T.z_set (pv 3)))
 (pss_cons (ps_set (i := 5) sc_classes_of.nd rfl (Or.inl rfl) (pe_lst pa_nil))
 (pss_cons (ps_for PassesOwn.never rfl (pi_enum (by rfl) T.z_enumerate (pa_cons (pv 0) pa_nil)) (pg_tup (by rfl) (pgs_cons (pg_name (i := 6) sc_classes_of.nd rfl (Or.inl rfl)) (pgs_cons (pg_tup (by rfl) (pgs_cons (pg_name (i := 1) sc_classes_of.nd rfl (Or.inl rfl)) (pgs_cons (pg_name (i := 2) sc_classes_of.nd rfl (Or.inr rfl)) pgs_nil))) pgs_nil))) (pss_one (ps_expr (bmK K rfl (pe_bm PySem.F.plainAttrs_list PySem.F.slot_list_append PySem.F.type_list_append mt_append (pv 5) (pa_cons (pe_tup (pa_cons (pe_ix (ix_seqK K rfl) (pv 3) (pv 6) (fun _ _ => rfl)) (pa_cons (pe_callTy call_tuple_of (by rfl) T.z_tuple (by decide +kernel) (pa_cons (pe_lc (own := [("exchange", 9)]) (g := gName 9) (tt := tYes) rfl sc_classes_of.nd (pi_listK K rfl (pe_callB (cr_xsortK K rfl rfl hr.units) (by rfl) T.z_sorted (by decide +kernel) (pa_cons (pv 2) pa_nil))) (blkOk_by (own := [("exchange", 9)]) (N := ["rows", "ends", "ways", "found", "count", "keys", "number", "first_of", "key", "exchange"]) (sc := defScope s_classes_of) (by decide +kernel)) (fun _ _ _ _ _ => (pg_name (i := 9) sc_classes_of.nd rfl (Or.inl rfl))) (fun _ _ _ _ _ => pts_nil) (fun _ _ _ _ _ => (pe_tup (pa_cons (pv 9) (pa_cons (pe_ix (ix_seqK K rfl) (pv 3) (pe_xget rfl hr.units (pv 2) (pv 9) (fun _ _ => rfl)) (fun _ _ => rfl)) pa_nil))))) pa_nil)) pa_nil))) pa_nil))))))
 (pss_cons (ps_set (i := 7) sc_classes_of.nd rfl (Or.inr rfl) (pe_xnew true))
 (pss_cons (ps_for PassesOwn.never rfl (pi_listK K rfl (pv 5)) (pg_name (i := 8) sc_classes_of.nd rfl (Or.inl rfl)) (pss_one (ps_expr (pe_xsetd rfl hr.units (pv 7) (pv 8) (pe_callB (cr_xlen rfl) (by rfl) T.z_len (by decide +kernel) (pa_cons (pv 7) pa_nil)) ⟨by rfl, by rfl, by rfl, by rfl⟩))))
 (pss_one (ps_set (i := 3) sc_classes_of.nd rfl (Or.inr rfl) (pe_lc (own := [("key", 8)]) (g := gName 8) (tt := tYes) rfl sc_classes_of.nd (pi_listK K rfl (pv 5)) (blkOk_by (own := [("key", 8)]) (N := ["rows", "ends", "ways", "found", "count", "keys", "number", "first_of", "key", "exchange"]) (sc := defScope s_classes_of) (by decide +kernel)) (fun _ _ _ _ _ => (pg_name (i := 8) sc_classes_of.nd rfl (Or.inl rfl))) (fun _ _ _ _ _ => pts_nil) (fun _ _ _ _ _ => (pe_xget rfl hr.units (pv 7) (pv 8) (fun _ _ => rfl))))))))))))
 (pss_one (ps_ret (pv 3)))))), fn_read (N := ["rows", "ends", "ways", "found", "count", "keys", "number", "first_of", "key", "exchange"]) (ab := ab_classes_of) (fun ea => ?_) red_classes_of h⟩
  unfold ab_classes_of
  exact (RS.seq (RS.asg (RN.lc (RI.list RE.var) (RG.tp (RGs.cons RG.nm (RGs.cons RG.nm RGs.nil)) rfl) RT.yes (RE.cb bInt_ok (RR.cons RE.var RR.nil)) (by decide)))
 (RS.seq (RS.asg (RN.of RE.int))
 (RS.seq (RS.while (RT.test (RE.op oNe_ok RE.var (RE.lenSet RE.var)))
 (RS.seq (RS.asg (RN.of (RE.lenSet RE.var)))
 (RS.seq (RS.asg (RN.lst RA.nil))
 (RS.seq (RS.for (RI.enum (RA.cons RE.var RA.nil)) (RG.tp (RGs.cons RG.nm (RGs.cons (RG.tp (RGs.cons RG.nm (RGs.cons RG.nm RGs.nil)) rfl) RGs.nil)) rfl)
 (RS.drop (RE.bm mAppend_ok RE.var (RA.cons (RE.tup (RA.cons (RE.op oIx_ok RE.var RE.var) (RA.cons (RE.tupOf (RR.cons (RE.fz (RN.lc (RI.list (RE.fz (RN.cb bXSort_ok (RR.cons RE.var RR.nil)))) RG.nm RT.yes (RE.tup (RA.cons RE.var (RA.cons (RE.op oIx_ok RE.var (RE.xget RE.var RE.var)) RA.nil))) (by decide))) RR.nil)) RA.nil))) RA.nil))))
 (RS.seq (RS.asg RN.xnew)
 (RS.seq (RS.for (RI.list RE.var) RG.nm
 (RS.drop (RE.xsetd RE.var RE.var (RE.cb bXLen_ok (RR.cons RE.var RR.nil)))))
 (RS.asg (RN.lc (RI.list RE.var) RG.nm RT.yes (RE.xget RE.var RE.var) (by decide)))))))))
 (RS.ret RN.move))))
end
end K13

set_option Elab.async false
set_option linter.all false
set_option maxRecDepth 100000
set_option maxHeartbeats 1000000
/-! K13N: what the told form is made of. -/
namespace K13
open PySem PySem.Spec PyProof.Rows L2 Zi K06
open PySem.W (minD AlikeAll)
variable [Zi.Wd]
theorem reachF_head {t : Tab} (T : TabOk t) : (reachF t)[0]? = some 0 := by
  obtain ⟨r, e⟩ := reach_pre t 0 t.length
  rw [Nat.zero_add] at e
  have e : reachF t = [0] ++ r := e
  rw [e]; rfl
theorem reachF_zero {t : Tab} (T : TabOk t) : 0 ∈ reachF t := List.mem_of_getElem? (reachF_head T)
theorem keys_mapW (ws : List Way) (f : Way → Nat) : keys (ws.map fun w => (w.1, f w)) = keys ws := by
  unfold keys
  rw [List.map_map]; rfl
theorem wsS_len (ws : List Way) : (wsS ws).length = ws.length := by rw [wsS_eq, List.length_map, keys_len]
theorem wsS_nodup {ws : List Way} (nd : (keys ws).Nodup) : (keys (wsS ws)).Nodup := by
  show ((wsS ws).map (·.1)).Nodup
  rw [wsS_keys]
  exact sortE_nodup nd
theorem TabOk.wss {t : Tab} (T : TabOk t) (s : Nat) : (row t s).2.length ≤ 1000 := by
  by_cases h : s < t.length
  · exact T.ws _ (row_mem h)
  · have : row t s = (false, []) := by unfold row; rw [List.getD_eq_getElem?_getD, List.getElem?_eq_none (by omega)]; rfl
    rw [this]; exact Nat.zero_le _
theorem renum_ok {t : Tab} (T : TabOk t) : TabOk (renumF t) := by
  have hl : (renumF t).length = (reachF t).length := List.length_map ..
  refine ⟨?_, ?_, fun r hr => ?_, fun r hr w hw => ?_, fun r hr => ?_⟩
  · rw [hl]
    exact List.length_pos_of_mem (reachF_zero T)
  · rw [hl]
    exact Nat.le_trans (reachN_len T _) T.few
  · obtain ⟨s, hs, rfl⟩ := List.mem_map.mp hr
    show (keys ((wsS (row t s).2).map fun w => (w.1, (reachF t).idxOf w.2))).Nodup
    rw [keys_mapW _ (fun w => (reachF t).idxOf w.2)]
    exact wsS_nodup (T.nds s)
  · obtain ⟨s, hs, rfl⟩ := List.mem_map.mp hr
    obtain ⟨v, hv, rfl⟩ := List.mem_map.mp hw
    rw [hl]
    exact List.idxOf_lt_length_of_mem (reachF_closed T hs hv)
  · obtain ⟨s, hs, rfl⟩ := List.mem_map.mp hr
    show ((wsS (row t s).2).map _).length ≤ 1000
    rw [List.length_map, wsS_len]
    exact T.wss s
structure MergedOk (m : List (Nat × Row)) (s : Nat) : Prop where
  nd : (m.map (·.1)).Nodup
  mem : s ∈ m.map (·.1)
  few : m.length ≤ 400
  kn : ∀ x ∈ m, (keys x.2.2).Nodup
  gl : ∀ x ∈ m, ∀ w ∈ x.2.2, w.2 ∈ m.map (·.1)
  ws : ∀ x ∈ m, x.2.2.length ≤ 1000
theorem order_mem {m : List (Nat × Row)} {s n : Nat} (h : s ∈ m.map (·.1)) : n ∈ orderF m s ↔ n ∈ m.map (·.1) := by
  unfold orderF
  rw [List.mem_cons, List.mem_filter]
  constructor
  · rintro (rfl | h2)
    · exact h
    · exact h2.1
  · intro h2
    by_cases e : n = s
    · exact .inl e
    · exact .inr ⟨h2, decide_eq_true e⟩
theorem order_nodup {m : List (Nat × Row)} {s : Nat} (nd : (m.map (·.1)).Nodup) : (orderF m s).Nodup := by
  unfold orderF
  refine List.nodup_cons.mpr ⟨fun h => ?_, nd.filter _⟩
  have := (List.mem_filter.mp h).2
  simp at this
theorem order_len {m : List (Nat × Row)} {s : Nat} (M : MergedOk m s) : (orderF m s).length ≤ m.length := by
  have p : (orderF m s).Perm (m.map (·.1)) := (List.perm_ext_iff_of_nodup (order_nodup M.nd) M.nd).mpr fun n => order_mem M.mem
  rw [p.length_eq, List.length_map]; exact Nat.le_refl _
theorem look_mem {m : List (Nat × Row)} {n : Nat} (h : n ∈ m.map (·.1)) : ∃ r, lookA m n = some r ∧ (n, r) ∈ m := by
  cases z : lookA m n with
  | none => exact absurd h (lookA_none.mp z)
  | some r => exact ⟨r, rfl, lookA_mem z⟩
theorem place_ok {m : List (Nat × Row)} {s : Nat} (M : MergedOk m s) : TabOk (placeF m s) := by
  have hl : (placeF m s).length = (orderF m s).length := List.length_map ..
  have hr' : ∀ n ∈ orderF m s, ∃ r, lookA m n = some r ∧ (n, r) ∈ m := fun n hn => look_mem ((order_mem M.mem).mp hn)
  refine ⟨by rw [hl]; exact Nat.succ_pos _, by rw [hl]; exact Nat.le_trans (order_len M) M.few, fun r hr => ?_, fun r hr w hw => ?_, fun r hr => ?_⟩
  · obtain ⟨n, hn, rfl⟩ := List.mem_map.mp hr
    obtain ⟨r, e, hm⟩ := hr' n hn
    rw [e]
    show (keys (r.2.map fun w => (w.1, (orderF m s).idxOf w.2))).Nodup
    rw [keys_mapW _ (fun w => (orderF m s).idxOf w.2)]
    exact M.kn _ hm
  · obtain ⟨n, hn, rfl⟩ := List.mem_map.mp hr
    obtain ⟨r, e, hm⟩ := hr' n hn
    rw [e] at hw
    obtain ⟨v, hv, rfl⟩ := List.mem_map.mp hw
    rw [hl]
    exact List.idxOf_lt_length_of_mem ((order_mem M.mem).mpr (M.gl _ hm v hv))
  · obtain ⟨n, hn, rfl⟩ := List.mem_map.mp hr
    obtain ⟨r, e, hm⟩ := hr' n hn
    rw [e]
    show (r.2.map _).length ≤ 1000
    rw [List.length_map]
    exact M.ws _ hm
/-! ### merged -/
def mergeS (t : Tab) (c : List Nat) (acc : List (Nat × Row)) (i : Nat) : List (Nat × Row) := if c.getD i 0 ∈ acc.map (·.1) then acc else acc ++ [(c.getD i 0, ((row t i).1, (row t i).2.map fun w => (w.1, c.getD w.2 0)))]
theorem mergedF_eq (t : Tab) (c : List Nat) : mergedF t c = (List.range t.length).foldl (mergeS t c) [] := rfl
/-- what holds of the rows put together of the first n -/
theorem merge_ok {t : Tab} (T : TabOk t) (c : List Nat) : ∀ n, n ≤ t.length → (((List.range n).foldl (mergeS t c) []).map (·.1)).Nodup ∧ ((List.range n).foldl (mergeS t c) []).length ≤ n ∧ (∀ i, i < n → c.getD i 0 ∈ ((List.range n).foldl (mergeS t c) []).map (·.1)) ∧
    ∀ x ∈ (List.range n).foldl (mergeS t c) [], ∃ i, i < n ∧ x = (c.getD i 0, ((row t i).1, (row t i).2.map fun w => (w.1, c.getD w.2 0)))
  | 0, _ => ⟨List.nodup_nil, Nat.le_refl _, fun i hi => absurd hi (Nat.not_lt_zero _), fun x hx => nomatch hx⟩
  | n + 1, h => by
    obtain ⟨a, b, d, e⟩ := merge_ok T c n (by omega)
    rw [List.range_succ, List.foldl_append]
    generalize (List.range n).foldl (mergeS t c) [] = acc at *
    show ((mergeS t c acc n).map (·.1)).Nodup ∧ (mergeS t c acc n).length ≤ n + 1 ∧ (∀ i, i < n + 1 → c.getD i 0 ∈ (mergeS t c acc n).map (·.1)) ∧ ∀ x ∈ mergeS t c acc n, _
    unfold mergeS
    split
    · rename_i hm
      refine ⟨a, by omega, fun i hi => ?_, fun x hx => ?_⟩
      · by_cases z : i < n
        · exact d i z
        · rw [show i = n by omega]; exact hm
      · obtain ⟨i, hi, ei⟩ := e x hx
        exact ⟨i, by omega, ei⟩
    · rename_i hm
      refine ⟨?_, by rw [List.length_append, List.length_singleton]; omega, fun i hi => ?_, fun x hx => ?_⟩
      · rw [List.map_append]
        refine List.nodup_append.mpr ⟨a, by simp, fun x hx y hy => ?_⟩
        rw [List.mem_singleton.mp hy]
        intro z
        have z : x = c.getD n 0 := z
        exact hm (z ▸ hx)
      · rw [List.map_append]
        by_cases z : i < n
        · exact List.mem_append_left _ (d i z)
        · rw [show i = n by omega]; simp
      · rcases List.mem_append.mp hx with hx | hx
        · obtain ⟨i, hi, ei⟩ := e x hx
          exact ⟨i, by omega, ei⟩
        · exact ⟨n, by omega, List.mem_singleton.mp hx⟩
theorem merged_ok {t : Tab} (T : TabOk t) (c : List Nat) : MergedOk (mergedF t c) (c.getD 0 0) := by
  obtain ⟨a, b, d, e⟩ := merge_ok T c t.length (Nat.le_refl _)
  rw [← mergedF_eq] at a b d e
  refine ⟨a, d 0 T.pos, Nat.le_trans b T.few, fun x hx => ?_, fun x hx w hw => ?_, fun x hx => ?_⟩
  · obtain ⟨i, hi, rfl⟩ := e x hx
    show (keys ((row t i).2.map fun w => (w.1, c.getD w.2 0))).Nodup
    rw [keys_mapW _ (fun w => c.getD w.2 0)]
    exact T.nds i
  · obtain ⟨i, hi, rfl⟩ := e x hx
    obtain ⟨v, hv, rfl⟩ := List.mem_map.mp hw
    exact d _ (T.lts i v hv)
  · obtain ⟨i, hi, rfl⟩ := e x hx
    show ((row t i).2.map _).length ≤ 1000
    rw [List.length_map]
    exact T.wss i
theorem keys_look {ws : List Way} (nd : (keys ws).Nodup) (f : Nat → Nat) : (keys ws).map (fun e => (e, f ((lookA ws e).getD 0))) = ws.map fun w => (w.1, f w.2) := by
  unfold keys
  rw [List.map_map]
  refine List.map_congr_left fun w hw => ?_
  show (w.1, f ((lookA ws w.1).getD 0)) = _
  rw [lookA_of nd (show (w.1, w.2) ∈ ws from hw)]; rfl
theorem dlook_key {ws : List Way} {e : Exch} (h : e ∈ keys ws) : dlook ((dP exD natD ws).map (·.1)) ((dP exD natD ws).map (·.2)) (kE e) = some (natD ((lookA ws e).getD 0)) := by
  rw [dlook_dP km_ex]
  cases z : lookA ws e with
  | none => exact absurd h (lookA_none.mp z)
  | some n => rfl
theorem cgGo_dict2 {α κ β : Type} [DecidableEq κ] {t : Bool} {kd : κ → D} {kn : κ → NestedKey} {vd : β → D} (M : KM t kd kn) {tg : Tgt} {ek ev : AE} {vs : List Nat} {k : AS → List (D × D) → Prop} {E0 : List Sl} {st : List Cell} {ks : List D} (tD : α → D) (kf : α → κ) (vf : α → β) (xs : List α) (hks : ks = xs.map tD) (hl : xs.length ≤ 1000) (nd : (xs.map kf).Nodup)
    (h : ∀ x ∈ xs, ∃ env', bindT tg (tD x) E0 = some env' ∧ wipeE env' vs = E0 ∧ (∀ A : R → AS → Prop, A (.w (.d (kd (kf x)))) ⟨env', st⟩ → ek ⟨env', st⟩ A) ∧ (∀ A : R → AS → Prop, A (.w (.d (vd (vf x)))) ⟨env', st⟩ → ev ⟨env', st⟩ A))
    (hk : k ⟨E0, st⟩ (dP kd vd (xs.map fun x => (kf x, vf x)))) : cgGo tg aYes (aXEmit t ek ev) vs k ks ⟨E0, st⟩ [] := by
  subst hks
  exact cgGo_dict M tD kf vf xs hl nd h hk
theorem keys_len2 (ws : List Way) : (keys ws).length = ws.length := List.length_map ..
theorem ents_ways : ∀ ws : List Way, entsD true (ws.map wayL) = some (ws.map fun w => (kE w.1, exD w.1, natD w.2))
  | [] => rfl
  | w :: ws => by
    rw [List.map_cons, List.map_cons]
    have e1 : ent1 true (wayL w) = some (kE w.1, exD w.1, natD w.2) := by
      unfold ent1 wayL
      simp only [key_ex, Option.map_some]
    simp only [entsD, e1, ents_ways ws]
theorem putAll_ways : ∀ (ws acc : List Way), ((acc ++ ws).map (·.1)).Nodup → putAllD (dP exD natD acc) (ws.map fun w => (kE w.1, exD w.1, natD w.2)) = dP exD natD (acc ++ ws)
  | [], acc, _ => by rw [List.append_nil]; rfl
  | w :: ws, acc, nd => by
    rw [List.map_cons]
    show putAllD (putD (dP exD natD acc) (kE w.1) (exD w.1) (natD w.2)) _ = _
    have ni : w.1 ∉ acc.map (·.1) := by
      rw [List.map_append, List.map_cons, List.nodup_append] at nd
      exact fun z => nd.2.2 _ z _ List.mem_cons_self rfl
    rw [putD_dP km_ex, putA_new ni, putAll_ways ws (acc ++ [w]) (by rw [List.append_assoc]; exact nd), List.append_assoc]
    rfl
theorem dict_ways {ws : List Way} (nd : (keys ws).Nodup) : putAllD [] (ws.map fun w => (kE w.1, exD w.1, natD w.2)) = dP exD natD ws := putAll_ways ws [] nd
end K13

set_option Elab.async false
set_option linter.all false
set_option maxRecDepth 100000
set_option maxHeartbeats 400000
set_option pp.deepTerms false
set_option pp.maxSteps 400
namespace K13
open PySem PySem.Spec PyProof.Rows L2 Ly Zi Zs Lc K06
open PySem.W (minD AlikeAll)
local macro_rules | `(tactic| walk_at "z") => `(tactic| simp (config := { dsimp := false }) only [aSeq, aIf, aT, aYes, aAnd, aOr, aNot, aOp, aOpL, aUn, aVar, aC, aRaw, aMove, pk, q_peek_w, q_peek_s, q_peekW_d, q_peekW_loc, q_cellD_lst, q_cellD_dic, ↓q_toW_w, q_toW_w, ↓q_toW_s, q_toW_s, ↓q_toL_w, q_toL_w, ↓q_toL_s, q_toL_s, ↓q_nToW_w, q_nToW_w, ↓q_nToW_lst, q_nToW_lst, ↓q_nToW_dic, q_nToW_dic, q_put_w, q_put_n, q_getC_loc, q_getC_s, q_putC_loc, q_putC_s, aFz, aN, aAsg, aAsgT, q_bind_nm, q_bind_tp, q_binds_nil, q_binds_cons, aRet, aRetN, aDrop, aDropN, aNext, aBreak, aCont, aAug, aSetIx, aDPut, aCall, aCons, aConsL, aNil, aLst, aTup, lstC, wsD, rCons, rNil, pks, aCB, aCBL, aBM, aBM0, isL, mAppend, mPop, mPopAt,
  aSlL, aSlT, aRevL, aNo, aSome, aAndV, aOrV, aNotV, aIfE, aChain, aDIn, aDGet, aDNew, withDic, Zi.keyOf, cut2, part32, eqD_str, inD2, all_str2, aFor, aForE, comesBack, aLc, aSortSet, aPutS, aCl, aIL, aIT, aIR1, aIR2, aIE, aIZ, aIS, wipeE, backE,
  q_cellD_dit, q_nToW_dit, q_key_int, aXGet, aXIn, aXGet1, aXNew, aXPut, aXSetd, withX, bXLen, aIXK, aIXI, aXDict, aXOne, aXDc, aXEmit, aNLen, aNEmit, aFld, aSetF, aMake, aAugS, bAll, bAny, bSum, bInt, aTupOf, aLenSet, oRep, aCallD, aCallN, aTupW, aIxW, aAsgW, eqI2, eqI3, aLenW, aDead, bLenS, aConsN, nToL, w0s, bindWs, W0.w, oAdd, oSub, oMul, oMulW, oMod, oDiv, oDivW, oPow, oLt, oLe, oGt, oGe, oI, oIc, oEq, oNe, oIn, oIx, oCat, oAddS, oInS, oIs, oIsNot, oIsB, oIsNB, Zi.isNon, oNeg, oBits, bLen, bList, bMax2, bMin2, bMin, aIsi, aSetSl, tyN, kit_NoneType_bool, kit_NoneType_int, kit_NoneType_str, kit_NoneType_list, kit_NoneType_tuple, kit_NoneType_dict, kit_bool_bool, kit_bool_int, kit_bool_str, kit_bool_list, kit_bool_tuple, kit_bool_dict, kit_int_bool, kit_int_int, kit_int_str, kit_int_list, kit_int_tuple, kit_int_dict, kit_str_bool, kit_str_int, kit_str_str, kit_str_list, kit_str_tuple, kit_str_dict, kit_list_bool, kit_list_int, kit_list_str, kit_list_list, kit_list_tuple, kit_list_dict, kit_tuple_bool, kit_tuple_int, kit_tuple_str, kit_tuple_list, kit_tuple_tuple, kit_tuple_dict, kit_dict_bool, kit_dict_int, kit_dict_str, kit_dict_list, kit_dict_tuple, kit_dict_dict, 
  List.getElem?_cons_zero, List.getElem?_cons_succ, List.set_cons_zero, List.set_cons_succ, List.length_cons, List.length_nil, List.set_set, List.getElem?_set_self, Nat.zero_le, okD_nil, okD_str, okD_int, okD_bl, okD_non, ea0, at0, at1, at2, at3, ix0, ix1, ix2, true_and, and_true, Bool.false_eq_true, Bool.not_true, Bool.not_false, ↓reduceIte, *])
local macro_rules | `(tactic| walk_at "y") => `(tactic| simp only [aSeq, aIf, aT, aYes, aAnd, aOr, aNot, aOp, aOpL, aUn, aVar, aC, aRaw, aMove, pk, q_peek_w, q_peek_s, q_peekW_d, q_peekW_loc, q_cellD_lst, q_cellD_dic, ↓q_toW_w, q_toW_w, ↓q_toW_s, q_toW_s, ↓q_toL_w, q_toL_w, ↓q_toL_s, q_toL_s, ↓q_nToW_w, q_nToW_w, ↓q_nToW_lst, q_nToW_lst, ↓q_nToW_dic, q_nToW_dic, q_put_w, q_put_n, q_getC_loc, q_getC_s, q_putC_loc, q_putC_s, aFz, aN, aAsg, aAsgT, q_bind_nm, q_bind_tp, q_binds_nil, q_binds_cons, aRet, aRetN, aDrop, aDropN, aNext, aBreak, aCont, aAug, aSetIx, aDPut, aCall, aCons, aConsL, aNil, aLst, aTup, lstC, wsD, rCons, rNil, pks, aCB, aCBL, aBM, aBM0, isL, mAppend, mPop, mPopAt,
  aSlL, aSlT, aRevL, aNo, aSome, aAndV, aOrV, aNotV, aIfE, aChain, aDIn, aDGet, aDNew, withDic, Zi.keyOf, cut2, part32, eqD_str, inD2, all_str2, aFor, aForE, comesBack, aLc, aSortSet, aPutS, aCl, aIL, aIT, aIR1, aIR2, aIE, aIZ, aIS, wipeE, backE,
  q_cellD_dit, q_nToW_dit, q_key_int, aXGet, aXIn, aXGet1, aXNew, aXPut, aXSetd, withX, bXLen, aIXK, aIXI, aXDict, aXOne, aXDc, aXEmit, aNLen, aNEmit, aFld, aSetF, aMake, aAugS, bAll, bAny, bSum, bInt, aTupOf, aLenSet, oRep, aCallD, aCallN, aTupW, aIxW, aAsgW, eqI2, eqI3, aLenW, aDead, bLenS, aConsN, nToL, w0s, bindWs, W0.w, oAdd, oSub, oMul, oMulW, oMod, oDiv, oDivW, oPow, oLt, oLe, oGt, oGe, oI, oIc, oEq, oNe, oIn, oIx, oCat, oAddS, oInS, oIs, oIsNot, oIsB, oIsNB, Zi.isNon, oNeg, oBits, bLen, bList, bMax2, bMin2, bMin, aIsi, aSetSl, tyN, kit_NoneType_bool, kit_NoneType_int, kit_NoneType_str, kit_NoneType_list, kit_NoneType_tuple, kit_NoneType_dict, kit_bool_bool, kit_bool_int, kit_bool_str, kit_bool_list, kit_bool_tuple, kit_bool_dict, kit_int_bool, kit_int_int, kit_int_str, kit_int_list, kit_int_tuple, kit_int_dict, kit_str_bool, kit_str_int, kit_str_str, kit_str_list, kit_str_tuple, kit_str_dict, kit_list_bool, kit_list_int, kit_list_str, kit_list_list, kit_list_tuple, kit_list_dict, kit_tuple_bool, kit_tuple_int, kit_tuple_str, kit_tuple_list, kit_tuple_tuple, kit_tuple_dict, kit_dict_bool, kit_dict_int, kit_dict_str, kit_dict_list, kit_dict_tuple, kit_dict_dict, 
  List.getElem?_cons_zero, List.getElem?_cons_succ, List.set_cons_zero, List.set_cons_succ, List.length_cons, List.length_nil, List.set_set, List.getElem?_set_self, Nat.zero_le, okD_nil, okD_str, okD_int, okD_bl, okD_non, ea0, at0, at1, at2, at3, ix0, ix1, ix2, true_and, and_true, Bool.false_eq_true, Bool.not_true, Bool.not_false, ↓reduceIte, *])

section
variable {P : Program} [Zi.Wd] {K : PySem.W.Frag} {mg : Str → Option Value} {base : Heap}

def ab_renumbered_from : XA → ASt := fun ea =>
 (aSeq (aAsg 3 (aOpL oCat (aFz (aLst (aCons (aVar 1) aNil))) (aFz (aLc (aIXK (aVar 0)) (.nm 2) (aT (aOp oNe (aVar 2) (aVar 1))) (aVar 2) [2]))))
 (aSeq (aAsg 4 (aXDc false (aIE (aCons (aVar 3) aNil)) (.tp [(.nm 8), (.nm 2)]) aYes (aXEmit false (aVar 2) (aVar 8)) [8, 2]))
 (aSeq (aAsg 5 (aLst aNil))
 (aSeq (aFor (aIL (aVar 3)) (.nm 2)
 (aSeq (aAsgT (.tp [(.nm 6), (.nm 7)]) (aXGet (aVar 0) (aVar 2)))
 (aDrop (aBM mAppend (aVar 5) (aCons (aTup (aCons (aVar 6) (aCons (aFz (aXDc true (aIXK (aVar 7)) (.nm 9) aYes (aXEmit true (aVar 9) (aXGet (aVar 4) (aXGet (aVar 7) (aVar 9)))) [9])) aNil))) aNil)))))
 (aRet (aCall ea0 1 sp_renumbered (aCons (aVar 5) aNil)))))))
theorem go_renumbered_from {w0 w1 : W} {st : List Cell} {A : Zi.N → List Cell → Prop} {Ea : XA} (h : ab_renumbered_from Ea ⟨fun s => A (.w (.d .non)) s.st, A, fun _ => False, fun _ => False⟩ ⟨[.v w0, .v w1, .no, .no, .no, .no, .no, .no, .no, .no], st⟩) : aFn 10 ab_renumbered_from [w0, w1] st A Ea := h
def sp_renumbered_from : ASp := fun ws st A _ => ∃ (m : List (Nat × Row)) (s : Nat), ws = [.d (ditP false natD rowD m), .d (natD s)] ∧ MergedOk m s ∧ A (.new (.lst ((renumF (placeF m s)).map rowD))) st
theorem red_renumbered_from (ws st A Ea) (_ : ws.length = 2) (h : sp_renumbered_from ws st A Ea) : aFn 10 ab_renumbered_from ws st A Ea := by
  obtain ⟨m, s, rfl, M, q⟩ := h
  refine go_renumbered_from ?_
  unfold ab_renumbered_from
  have few := M.few
  have e0 : ditP false natD rowD m = .dit false ((dP natD rowD m).map (·.1)) ((dP natD rowD m).map (·.2)) := rfl
  have e1 : (dP natD rowD m).map (·.1) = (m.map (·.1)).map natD := dP_keys m
  rw [e0]
  walk_at "z"
  refine ⟨by decide, ?_⟩
  refine lcGo_ty natD (fun (n : Nat) => !decide ((n : Int) = (s : Int))) natD (m.map (·.1)) (by rw [List.length_map]; omega) ?_ ?_
  · refine fun n hn => ⟨_, rfl, rfl, fun A hA => ?_, fun _ A hA => hA⟩
    walk_at "z"
    rw [eqD_int]
    exact hA
  have ef : (m.map (·.1)).filter (fun (n : Nat) => !decide ((n : Int) = (s : Int))) = (m.map (·.1)).filter (· ≠ s) := by
    refine List.filter_congr fun n _ => ?_
    by_cases z : n = s
    · simp [z]
    · simp [z, Int.ofNat_inj]
  rw [ef]
  have c1 : ∀ n r, lookA m n = some r → dlook ((m.map (·.1)).map natD) ((dP natD rowD m).map (·.2)) (.num (n : Int)) = some (rowD r) := fun n r h => by
    have := dlook_dP (vd := rowD) km_nat n m
    rw [e1, h] at this
    exact this
  have hP := place_ok M
  have hO : s :: (m.map (·.1)).filter (· ≠ s) = orderF m s := rfl
  have hO2 : [natD s] ++ ((m.map (·.1)).filter (· ≠ s)).map natD = (orderF m s).map natD := by rw [← hO]; rfl
  have hol := order_len M
  have hon := order_nodup (s := s) M.nd
  have hom : ∀ n ∈ orderF m s, ∃ r, lookA m n = some r ∧ (n, r) ∈ m := fun n hn => look_mem ((order_mem M.mem).mp hn)
  have hgl : ∀ x ∈ m, ∀ w ∈ x.2.2, w.2 ∈ orderF m s := fun x hx w hw => (order_mem M.mem).mpr (M.gl x hx w hw)
  have hpl : placeF m s = (orderF m s).map fun n => (((lookA m n).getD (false, [])).1, ((lookA m n).getD (false, [])).2.map fun w => (w.1, (orderF m s).idxOf w.2)) := rfl
  have hkn := M.kn
  have hws := M.ws
  clear ef M hO e0
  generalize (m.map (·.1)).map natD = ks0 at *
  generalize (dP natD rowD m).map (·.2) = vs0 at *
  have hsz : [natD s].length + (((m.map (·.1)).filter (· ≠ s)).map natD).length ≤ sizeLine := by
    rw [← List.length_append, hO2, List.length_map]
    exact size1000 (by omega)
  walk_at "z"
  refine ⟨hsz, ?_⟩
  show cgG _ _ _ _ _ (enumD 0 ([natD s] ++ ((m.map (·.1)).filter (· ≠ s)).map natD)) _ _ _
  rw [hO2, enumD_map]
  clear hO2 hsz
  generalize orderF m s = O at *
  refine cgGo_dict km_nat (tD := fun p : Nat × Nat => .tup [natD p.2, natD p.1]) (kf := fun p => p.1) (vf := fun p => p.2) (vd := natD) O.zipIdx (by rw [List.length_zipIdx]; omega) (by rw [List.zipIdx_map_fst]; exact hon) (fun p hp => ⟨_, rfl, rfl, fun A hA => hA, fun A hA => hA⟩) ?_
  rw [show (O.zipIdx.map fun p : Nat × Nat => (p.1, p.2)) = O.zipIdx from List.map_id _]
  have few2 : O.length ≤ 400 := Nat.le_trans hol few
  have hlc : ∀ n ∈ O, ∃ r : Row, lookA m n = some r ∧ (keys r.2).Nodup ∧ r.2.length ≤ 1000 ∧ ∀ w ∈ r.2, w.2 ∈ O := fun n hn => by
    obtain ⟨r, e, hm⟩ := hom n hn
    exact ⟨r, e, hkn _ hm, hws _ hm, hgl _ hm⟩
  clear hom hkn hws hgl hon hol
  walk_at "z"
  refine forGo_ty natD (fun pre ys s' => ∃ y2 y6 y7, s' = ⟨[.v (.d (.dit false ks0 vs0)), .v (.d (natD s)), y2, .v (.d (.lst (O.map natD))), .own (.dit false (dP natD natD O.zipIdx)), .own (.lst ((pre.map fun n => (((lookA m n).getD (false, [])).1, ((lookA m n).getD (false, [])).2.map fun w => (w.1, O.idxOf w.2))).map rowD)), y6, y7, .no, .no], st⟩) O ?_ ?_ _ ⟨_, _, _, rfl⟩
  · rintro s' ⟨y2, y6, y7, rfl⟩
    rw [← hpl]
    clear hpl
    walk_at "z"
    exact ⟨placeF m s, rfl, hP, q⟩
  · rintro pre n ys s' k e2 hk ⟨y2, y6, y7, rfl⟩
    have hn : n ∈ O := by rw [e2]; simp
    have hlen : pre.length < 400 := by
      have : O.length = pre.length + (ys.length + 1) := by rw [e2, List.length_append, List.length_cons]
      omega
    obtain ⟨r, er, nd, hw, hg⟩ := hlc n hn
    have b1 := c1 n r er
    have b2 : rowD r = .tup [.bl r.1, waysD r.2] := rfl
    have hk2 := fun y2 y6 y7 => hk _ ⟨y2, y6, y7, rfl⟩
    rw [List.map_append, List.map_append] at hk2
    have e5 : rowD (((lookA m n).getD (false, [])).1, ((lookA m n).getD (false, [])).2.map fun w => (w.1, O.idxOf w.2)) = .tup [.bl r.1, .dit true ((dP exD natD ((keys r.2).map fun e => (e, O.idxOf ((lookA r.2 e).getD 0)))).map (·.1)) ((dP exD natD ((keys r.2).map fun e => (e, O.idxOf ((lookA r.2 e).getD 0)))).map (·.2))] := by
      rw [er, keys_look nd (fun n => O.idxOf n)]; rfl
    simp only [List.map_cons, List.map_nil, e5] at hk2
    clear hk e2 hlc hpl q c1 e5
    rw [b2] at b1
    walk_at "z"
    have e6 : waysD r.2 = .dit true ((dP exD natD r.2).map (·.1)) ((dP exD natD r.2).map (·.2)) := rfl
    rw [e6]
    have e7 : (dP exD natD r.2).map (·.1) = (keys r.2).map exD := dP_keys r.2
    show cgGo _ _ _ _ _ ((dP exD natD r.2).map (·.1)) _ _
    refine cgGo_dict2 km_ex (tD := exD) (kf := fun e => e) (vf := fun e => O.idxOf ((lookA r.2 e).getD 0)) (vd := natD) (keys r.2) e7 (by rw [keys_len2]; exact hw) (by rw [List.map_id']; exact nd) (fun e he => ⟨_, rfl, rfl, fun A hA => hA, fun A hA => ?_⟩) ?_
    · have d1 := dlook_key he
      have hg2 : (lookA r.2 e).getD 0 ∈ O := by
        cases z : lookA r.2 e with
        | none => exact absurd he (lookA_none.mp z)
        | some n => exact hg _ (lookA_mem z)
      have d3 : dlook ((dP natD natD O.zipIdx).map (·.1)) ((dP natD natD O.zipIdx).map (·.2)) (.num (((lookA r.2 e).getD 0 : Nat) : Int)) = some (natD (O.idxOf ((lookA r.2 e).getD 0))) := by
        have := dlook_dP (vd := natD) km_nat ((lookA r.2 e).getD 0) O.zipIdx
        rw [lookA_zip hg2, Nat.zero_add] at this
        exact this
      clear hk2 b1 b2 e6 e7
      walk_at "z"
      simp only [key_ex, d1, q_key_int, d3]
      exact hA
    · clear b1 b2 e6 e7
      walk_at "z"
      have hz : (List.map rowD (pre.map fun n => (((lookA m n).getD (false, [])).1, ((lookA m n).getD (false, [])).2.map fun w => (w.1, O.idxOf w.2)))).length < sizeLine := by rw [List.length_map, List.length_map]; exact size1000' (by omega)
      exact ⟨by decide, hz⟩
theorem ok_renumbered_from (T : Top K mg) : FnOk P w K mg base CX0 3 T.a_renumbered_from T.fd_renumbered_from ["merged", "start"] (SpA 2 sp_renumbered_from) := by
  refine T.F_renumbered_from.ok sc_renumbered_from (fun vs H Q E h => SpA.len h) (fun cdv A outer s H vs Q E hr h => ?_)
  refine ⟨_, (pss_cons (ps_set (i := 3) sc_renumbered_from.nd rfl (Or.inl rfl) (pe_op op_cat (pe_lst (pa_cons (pv 1) pa_nil)) (pe_lc (own := [("number", 2)]) (g := gName 2) (tt := _) rfl sc_renumbered_from.nd (pi_xkeys (pv 0)) (blkOk_by (own := [("number", 2)]) (N := ["merged", "start", "number", "order", "place_of", "rows", "ends", "ways", "place", "exchange"]) (sc := defScope s_renumbered_from) (by decide +kernel)) (fun _ _ _ _ _ => (pg_name (i := 2) sc_renumbered_from.nd rfl (Or.inl rfl))) (fun _ _ _ _ _ => pts_one (pt_cmpR (op_neQ hr.units) (pv 2) (pv 1) (nomark _))) (fun _ _ _ _ _ => (pv 2)))))
 (pss_cons (ps_set (i := 4) sc_renumbered_from.nd rfl (Or.inr rfl) (Zs.pe_comp (own := [("place", 8), ("number", 2)]) (g := gTup _ 2 (gCons (gName 8) (gCons (gName 2) gNil))) (tt := tYes) (ho := fun D => ditO false 0 D []) (.dict _ _) rfl rfl sc_renumbered_from.nd (by decide) (pi_enum (by rfl) T.z_enumerate (pa_cons (pv 3) pa_nil)) (blkOk_by (own := [("place", 8), ("number", 2)]) (N := ["merged", "start", "number", "order", "place_of", "rows", "ends", "ways", "place", "exchange"]) (sc := defScope s_renumbered_from) (by decide +kernel)) (fun _ _ _ h => newDict_at h) (fun _ h b => dit_ok (raw_new h b)) (fun _ _ _ _ _ => (pg_tup (by rfl) (pgs_cons (pg_name (i := 8) sc_renumbered_from.nd rfl (Or.inl rfl)) (pgs_cons (pg_name (i := 2) sc_renumbered_from.nd rfl (Or.inl rfl)) pgs_nil)))) (fun _ _ _ _ _ => pts_nil) (fun _ _ _ _ _ Dn => (emit_dict (r := rXPut false Dn) rfl (pv 2) (pv 8) (xput_ok rfl hr.units))) (by decide)))
 (pss_cons (ps_set (i := 5) sc_renumbered_from.nd rfl (Or.inl rfl) (pe_lst pa_nil))
 (pss_cons (ps_for PassesOwn.never rfl (pi_listK K rfl (pv 3)) (pg_name (i := 2) sc_renumbered_from.nd rfl (Or.inl rfl)) (pss_cons (ps_asg (pe_xget rfl hr.units (pv 0) (pv 2) (fun _ _ => rfl)) (pg_tup (by rfl) (pgs_cons (pg_name (i := 6) sc_renumbered_from.nd rfl (Or.inl rfl)) (pgs_cons (pg_name (i := 7) sc_renumbered_from.nd rfl (Or.inr rfl)) pgs_nil))))
 (pss_one (ps_expr (bmK K rfl (pe_bm PySem.F.plainAttrs_list PySem.F.slot_list_append PySem.F.type_list_append mt_append (pv 5) (pa_cons (pe_tup (pa_cons (pv 6) (pa_cons (Zs.pe_comp (own := [("exchange", 9)]) (g := gName 9) (tt := tYes) (ho := fun D => ditO true 0 D []) (.dict _ _) rfl rfl sc_renumbered_from.nd (by decide) (pi_xkeys (pv 7)) (blkOk_by (own := [("exchange", 9)]) (N := ["merged", "start", "number", "order", "place_of", "rows", "ends", "ways", "place", "exchange"]) (sc := defScope s_renumbered_from) (by decide +kernel)) (fun _ _ _ h => newDict_at h) (fun _ h b => dit_ok (raw_new h b)) (fun _ _ _ _ _ => (pg_name (i := 9) sc_renumbered_from.nd rfl (Or.inl rfl))) (fun _ _ _ _ _ => pts_nil) (fun _ _ _ _ _ Dn => (emit_dict (r := rXPut true Dn) rfl (pv 9) (pe_xget rfl hr.units (pv 4) (pe_xget rfl hr.units (pv 7) (pv 9) (fun _ _ => rfl)) (fun _ _ => rfl)) (xput_ok rfl hr.units))) (by decide)) pa_nil))) pa_nil)))))))
 (pss_one (ps_ret (pe_call (ok_renumbered T) (hr.mono (by decide)) (by rfl) T.g_renumbered T.F_renumbered.kp T.b_renumbered .nil pass0 (pa_cons (pv 5) pa_nil)))))))), fn_read (N := ["merged", "start", "number", "order", "place_of", "rows", "ends", "ways", "place", "exchange"]) (ab := ab_renumbered_from) (fun ea => ?_) red_renumbered_from h⟩
  unfold ab_renumbered_from
  exact (RS.seq (RS.asg (RN.op oCat_ok (RE.fz (RN.lst (RA.cons RE.var RA.nil))) (RE.fz (RN.lc (RI.xkeys RE.var) RG.nm (RT.test (RE.op oNe_ok RE.var RE.var)) RE.var (by decide)))))
 (RS.seq (RS.asg (RN.xdc (RI.enum (RA.cons RE.var RA.nil)) (RG.tp (RGs.cons RG.nm (RGs.cons RG.nm RGs.nil)) rfl) RT.yes (RCg.xemit RE.var RE.var) (by decide)))
 (RS.seq (RS.asg (RN.lst RA.nil))
 (RS.seq (RS.for (RI.list RE.var) RG.nm
 (RS.seq (RS.asgT (RE.xget RE.var RE.var) (RG.tp (RGs.cons RG.nm (RGs.cons RG.nm RGs.nil)) rfl))
 (RS.drop (RE.bm mAppend_ok RE.var (RA.cons (RE.tup (RA.cons RE.var (RA.cons (RE.fz (RN.xdc (RI.xkeys RE.var) RG.nm RT.yes (RCg.xemit RE.var (RE.xget RE.var (RE.xget RE.var RE.var))) (by decide))) RA.nil))) RA.nil)))))
 (RS.ret (RN.call0 (asp := sp_renumbered) (RA.cons RE.var RA.nil)))))))
theorem classI_len {t : Tab} : ∀ (m k : Nat) (c : List Nat), c.length = t.length → (classI t m k c).length = t.length
  | 0, _, _, h => h
  | m + 1, k, c, h => by
    show (if k = distN c then c else classI t m (distN c) (stepC t c)).length = _
    split
    · exact h
    · exact classI_len m _ _ (stepC_len t c)
theorem classF_len {t : Tab} (T : TabOk t) : (classF t).length = t.length := classI_len _ _ _ (List.length_map ..)
def ab_least : XA → ASt := fun ea =>
 (aSeq (aAsg 1 (aCall ea0 1 sp_renumbered (aCons (aVar 0) aNil)))
 (aSeq (aAsg 2 (aCall ea0 1 sp_classes_of (aCons (aVar 1) aNil)))
 (aSeq (aAsg 3 (aXNew false))
 (aSeq (aFor (aIE (aCons (aVar 1) aNil)) (.tp [(.nm 4), (.tp [(.nm 5), (.nm 6)])])
 (aDrop (aXSetd (aVar 3) (aOp oIx (aVar 2) (aVar 4)) (aTup (aCons (aVar 5) (aCons (aFz (aXDc true (aIXK (aVar 6)) (.nm 7) aYes (aXEmit true (aVar 7) (aOp oIx (aVar 2) (aXGet (aVar 6) (aVar 7)))) [7])) aNil))))))
 (aRet (aCall ea0 2 sp_renumbered_from (aCons (aVar 3) (aCons (aOp oIx (aVar 2) (aC (.int 0))) aNil))))))))
theorem go_least {w0 : W} {st : List Cell} {A : Zi.N → List Cell → Prop} {Ea : XA} (h : ab_least Ea ⟨fun s => A (.w (.d .non)) s.st, A, fun _ => False, fun _ => False⟩ ⟨[.v w0, .no, .no, .no, .no, .no, .no, .no], st⟩) : aFn 8 ab_least [w0] st A Ea := h
def sp_least : ASp := fun ws st A _ => ∃ t : Tab, ws = [.d (tabD t)] ∧ TabOk t ∧ A (.new (.lst ((leastF t).map rowD))) st
theorem red_least (ws st A Ea) (_ : ws.length = 1) (h : sp_least ws st A Ea) : aFn 8 ab_least ws st A Ea := by
  obtain ⟨t, rfl, T, q⟩ := h
  refine go_least ?_
  unfold ab_least
  walk_at "z"
  refine ⟨t, rfl, T, ?_⟩
  have el : leastF t = renumF (placeF (mergedF (renumF t) (classF (renumF t))) ((classF (renumF t)).getD 0 0)) := rfl
  rw [el] at q
  have T2 := renum_ok T
  clear T el
  generalize renumF t = s at *
  walk_at "z"
  refine ⟨s, rfl, T2, ?_⟩
  have hM := merged_ok T2 (classF s)
  have hcl : (classF s).length = s.length := classF_len T2
  have few := T2.few
  have pos := T2.pos
  have em := mergedF_eq s (classF s)
  have hmo := fun n h => merge_ok T2 (classF s) n h
  have ht0 : tabD t = tabD t := rfl
  clear ht0
  generalize tabD t = T0 at *
  generalize classF s = c at *
  have h0 : c[0]? = some (c.getD 0 0) := by rw [List.getD_eq_getElem?_getD, List.getElem?_eq_getElem (by omega)]; rfl
  have b0 := atI_map (f := natD) h0
  clear h0
  walk_at "z"
  rw [enumD_map]
  refine forGo_ty (fun p : Row × Nat => D.tup [natD p.2, rowD p.1]) (fun pre ys s' => ∃ y4 y5 y6, s' = ⟨[.v (.d T0), .v (.d (.lst (s.map rowD))), .own (.lst (c.map natD)), .own (.dit false (dP natD rowD ((List.range pre.length).foldl (mergeS s c) []))), y4, y5, y6, .no], st⟩) s.zipIdx ?_ ?_ _ ⟨_, _, _, rfl⟩
  · rintro s' ⟨y4, y5, y6, rfl⟩
    rw [List.length_zipIdx, ← em]
    clear em hmo
    generalize mergedF s c = m at *
    have b0' : L2.atI (c.map natD) 0 = some (natD (c.getD 0 0)) := b0
    walk_at "z"
    exact ⟨m, c.getD 0 0, rfl, hM, q⟩
  · rintro pre p ys s' k2 e1 hk3 ⟨y4, y5, y6, rfl⟩
    obtain ⟨r, i⟩ := p
    obtain ⟨rfl, hr, _⟩ := zip_at e1
    have hi : pre.length < s.length := (List.getElem?_eq_some_iff.mp hr).1
    have er : row s pre.length = r := by
      have := row_at hi
      rw [hr] at this
      exact (Option.some.inj this).symm
    have hci : c[pre.length]? = some (c.getD pre.length 0) := by
      rw [List.getD_eq_getElem?_getD, List.getElem?_eq_getElem (by omega)]; rfl
    have b1 := atI_map (f := natD) hci
    have b2 : rowD r = .tup [.bl r.1, waysD r.2] := rfl
    have hw := T2.ws _ (row_mem hi)
    have hlt := T2.lts pre.length
    have nd := T2.nds pre.length
    have hk4 := fun y4 y5 y6 => hk3 _ ⟨y4, y5, y6, rfl⟩
    rw [List.length_append, List.length_singleton, List.range_succ, List.foldl_append] at hk4
    have hal := (hmo pre.length (by omega)).2.1
    generalize (List.range pre.length).foldl (mergeS s c) [] = acc at *
    have hst : [pre.length].foldl (mergeS s c) acc = mergeS s c acc pre.length := rfl
    rw [hst] at hk4
    unfold mergeS at hk4
    rw [er] at hw hlt nd hk4
    clear hk3 e1 q em hmo hM b0 hst
    rw [b2]
    walk_at "z"
    refine ⟨⟨_, _, rfl⟩, ?_⟩
    have e6 : waysD r.2 = .dit true ((dP exD natD r.2).map (·.1)) ((dP exD natD r.2).map (·.2)) := rfl
    have e7 : (dP exD natD r.2).map (·.1) = (keys r.2).map exD := dP_keys r.2
    rw [e6]
    show cgGo _ _ _ _ _ ((dP exD natD r.2).map (·.1)) _ _
    refine cgGo_dict2 km_ex (tD := exD) (kf := fun e => e) (vf := fun e => c.getD ((lookA r.2 e).getD 0) 0) (vd := natD) (keys r.2) e7 (by rw [keys_len2]; exact hw) (by rw [List.map_id']; exact nd) (fun e he => ⟨_, rfl, rfl, fun A hA => hA, fun A hA => ?_⟩) ?_
    · have d1 := dlook_key he
      have hg : (lookA r.2 e).getD 0 < s.length := by
        cases z : lookA r.2 e with
        | none => exact absurd he (lookA_none.mp z)
        | some n => exact hlt _ (lookA_mem z)
      have hcg : c[(lookA r.2 e).getD 0]? = some (c.getD ((lookA r.2 e).getD 0) 0) := by
        rw [List.getD_eq_getElem?_getD, List.getElem?_eq_getElem (by omega)]; rfl
      have d3 := atI_map (f := natD) hcg
      clear hk4 b1 b2 e6 e7
      walk_at "z"
      simp only [key_ex, d1, d3]
      exact hA
    · have e8 : (keys r.2).map (fun e => (e, c.getD ((lookA r.2 e).getD 0) 0)) = r.2.map fun w => (w.1, c.getD w.2 0) := keys_look nd (fun n => c.getD n 0)
      have c1 := dlook_dP (vd := rowD) km_nat (c.getD pre.length 0) acc
      have c2 := putD_dP (vd := rowD) km_nat (c.getD pre.length 0) (r.1, r.2.map fun w => (w.1, c.getD w.2 0)) acc
      have e9 : rowD (r.1, r.2.map fun w => (w.1, c.getD w.2 0)) = .tup [.bl r.1, .dit true ((dP exD natD (r.2.map fun w => (w.1, c.getD w.2 0))).map (·.1)) ((dP exD natD (r.2.map fun w => (w.1, c.getD w.2 0))).map (·.2))] := rfl
      rw [e9] at c2
      rw [e8]
      have c0 : (dP natD rowD acc).length < sizeLine := by rw [dP_len]; exact size1000' (by omega)
      have hk5 : ∀ y4 y5 y6, k2 _ := hk4
      clear b1 b2 e6 e7 e8 e9 hk4
      by_cases hz : c.getD pre.length 0 ∈ acc.map (·.1)
      · obtain ⟨v, ev, _⟩ := look_mem hz
        rw [ev] at c1
        have c1' : dlook ((dP natD rowD acc).map (·.1)) ((dP natD rowD acc).map (·.2)) (.num ((c.getD pre.length 0 : Nat) : Int)) = some (rowD v) := c1
        simp only [hz, if_true] at hk5
        clear c1 c2
        walk_at "z"
        decide
      · rw [lookA_none.mpr hz] at c1
        have c1' : dlook ((dP natD rowD acc).map (·.1)) ((dP natD rowD acc).map (·.2)) (.num ((c.getD pre.length 0 : Nat) : Int)) = none := c1
        rw [putA_new hz] at c2
        have c2' : putD (dP natD rowD acc) (.num ((c.getD pre.length 0 : Nat) : Int)) (natD (c.getD pre.length 0)) _ = _ := c2
        simp only [hz, if_false] at hk5
        clear c1 c2
        walk_at "z"
        decide
theorem ok_least (T : Top K mg) : FnOk P w K mg base CX0 4 T.a_least T.fd_least ["rows"] (SpA 1 sp_least) := by
  refine T.F_least.ok sc_least (fun vs H Q E h => SpA.len h) (fun cdv A outer s H vs Q E hr h => ?_)
  refine ⟨_, (pss_cons (ps_set (i := 1) sc_least.nd rfl (Or.inl rfl) (pe_call (ok_renumbered T) (hr.mono (by decide)) (by rfl) T.g_renumbered T.F_renumbered.kp T.b_renumbered .nil pass0 (pa_cons (pv 0) pa_nil)))
 (pss_cons (ps_set (i := 2) sc_least.nd rfl (Or.inr rfl) (pe_call (ok_classes_of T) (hr.mono (by decide)) (by rfl) T.g_classes_of T.F_classes_of.kp T.b_classes_of .nil pass0 (pa_cons (pv 1) pa_nil)))
 (pss_cons (ps_set (i := 3) sc_least.nd rfl (Or.inl rfl) (pe_xnew false))
 (pss_cons (ps_for PassesOwn.never rfl (pi_enum (by rfl) T.z_enumerate (pa_cons (pv 1) pa_nil)) (pg_tup (by rfl) (pgs_cons (pg_name (i := 4) sc_least.nd rfl (Or.inl rfl)) (pgs_cons (pg_tup (by rfl) (pgs_cons (pg_name (i := 5) sc_least.nd rfl (Or.inl rfl)) (pgs_cons (pg_name (i := 6) sc_least.nd rfl (Or.inr rfl)) pgs_nil))) pgs_nil))) (pss_one (ps_expr (pe_xsetd rfl hr.units (pv 3) (pe_ix (ix_seqK K rfl) (pv 2) (pv 4) (fun _ _ => rfl)) (pe_tup (pa_cons (pv 5) (pa_cons (Zs.pe_comp (own := [("exchange", 7)]) (g := gName 7) (tt := tYes) (ho := fun D => ditO true 0 D []) (.dict _ _) rfl rfl sc_least.nd (by decide) (pi_xkeys (pv 6)) (blkOk_by (own := [("exchange", 7)]) (N := ["rows", "some", "classes", "merged", "number", "ends", "ways", "exchange"]) (sc := defScope s_least) (by decide +kernel)) (fun _ _ _ h => newDict_at h) (fun _ h b => dit_ok (raw_new h b)) (fun _ _ _ _ _ => (pg_name (i := 7) sc_least.nd rfl (Or.inl rfl))) (fun _ _ _ _ _ => pts_nil) (fun _ _ _ _ _ Dn => (emit_dict (r := rXPut true Dn) rfl (pv 7) (pe_ix (ix_seqK K rfl) (pv 2) (pe_xget rfl hr.units (pv 6) (pv 7) (fun _ _ => rfl)) (fun _ _ => rfl)) (xput_ok rfl hr.units))) (by decide)) pa_nil))) ⟨by rfl, by rfl, by rfl, by rfl⟩))))
 (pss_one (ps_ret (pe_call (ok_renumbered_from T) (hr.mono (by decide)) (by rfl) T.g_renumbered_from T.F_renumbered_from.kp T.b_renumbered_from .nil pass0 (pa_cons (pv 3) (pa_cons (pe_ix (ix_seqK K rfl) (pv 2) pe_int (fun _ _ => rfl)) pa_nil))))))))), fn_read (N := ["rows", "some", "classes", "merged", "number", "ends", "ways", "exchange"]) (ab := ab_least) (fun ea => ?_) red_least h⟩
  unfold ab_least
  exact (RS.seq (RS.asg (RN.call0 (asp := sp_renumbered) (RA.cons RE.var RA.nil)))
 (RS.seq (RS.asg (RN.call0 (asp := sp_classes_of) (RA.cons RE.var RA.nil)))
 (RS.seq (RS.asg RN.xnew)
 (RS.seq (RS.for (RI.enum (RA.cons RE.var RA.nil)) (RG.tp (RGs.cons RG.nm (RGs.cons (RG.tp (RGs.cons RG.nm (RGs.cons RG.nm RGs.nil)) rfl) RGs.nil)) rfl)
 (RS.drop (RE.xsetd RE.var (RE.op oIx_ok RE.var RE.var) (RE.tup (RA.cons RE.var (RA.cons (RE.fz (RN.xdc (RI.xkeys RE.var) RG.nm RT.yes (RCg.xemit RE.var (RE.op oIx_ok RE.var (RE.xget RE.var RE.var))) (by decide))) RA.nil))))))
 (RS.ret (RN.call0 (asp := sp_renumbered_from) (RA.cons RE.var (RA.cons (RE.op oIx_ok RE.var RE.int) RA.nil))))))))
def ab_Machine___init__ (C_Machine : Addr) : XA → ASt := fun ea =>
 (aSeq (aDropN (aCall ea0 1 sp_must_rows (aCons (aVar 1) aNil)))
 (aSeq (aIf (aT (aOp oGt (aCB bLen (rCons (aVar 1) rNil)) (aC (.int 400))))
 aDead
 aNext)
 (aSetF C_Machine "states" (aVar 0) (aFz (aCall ea0 1 sp_least (aCons (aFz (aLc (aIL (aVar 1)) (.tp [(.nm 2), (.nm 3)]) aYes (aTup (aCons (aVar 2) (aCons (aFz (aXDict true (rCons (aVar 3) rNil))) aNil))) [2, 3])) aNil))))))
theorem go_Machine___init__ {C_Machine : Addr} {w0 w1 : W} {st : List Cell} {A : Zi.N → List Cell → Prop} {Ea : XA} (h : (ab_Machine___init__ C_Machine) Ea ⟨fun s => A (.w (.d .non)) s.st, A, fun _ => False, fun _ => False⟩ ⟨[.v w0, .v w1, .no, .no], st⟩) : aFn 4 (ab_Machine___init__ C_Machine) [w0, w1] st A Ea := h
def sp_Machine___init__ (C_Machine : Addr) : ASp := fun ws st A _ => ∃ (p : Nat) (t : Tab), ws = [.loc p, .d (tabL t)] ∧ RowsOk t ∧ st[p]? = some (.ins C_Machine []) ∧ A (.w (.d .non)) (st.set p (.ins C_Machine [("states", .d (tabD (leastF t)))]))
theorem red_Machine___init__ {C_Machine : Addr} (ws st A Ea) (_ : ws.length = 2) (h : sp_Machine___init__ C_Machine ws st A Ea) : aFn 4 (ab_Machine___init__ C_Machine) ws st A Ea := by
  obtain ⟨p, t, rfl, R, hp, q⟩ := h
  refine go_Machine___init__ ?_
  unfold ab_Machine___init__
  walk_at "z"
  refine ⟨t, rfl, R, ?_⟩
  unfold tabL
  have few := R.few
  walk_at "z"
  rw [if_neg (fun z => by have := of_decide_eq_true z; rw [List.length_map] at this; omega)]
  refine lcGo_ty rowL (fun _ => true) rowD t (by omega) ?_ ?_
  · refine fun r hr => ⟨_, rfl, rfl, fun A hA => hA, fun _ A hA => ?_⟩
    have e1 := ents_ways r.2
    have e2 := dict_ways (R.nd r hr)
    have e3 : rowD r = .tup [.bl r.1, .dit true ((dP exD natD r.2).map (·.1)) ((dP exD natD r.2).map (·.2))] := rfl
    rw [e3] at hA
    clear q hp
    walk_at "z"
    exact ⟨by decide, hA⟩
  · rw [List.filter_eq_self.mpr fun _ _ => rfl]
    have T := R.toTabOk
    have hl : p < st.length := (List.getElem?_eq_some_iff.mp hp).1
    walk_at "z"
    refine ⟨t, rfl, T, ?_⟩
    walk_at "z"
    exact ⟨by decide, q⟩
theorem ok_Machine___init__ (T : Top K mg) : FnOk P w K mg base CX0 5 T.a_Machine___init__ T.fd_Machine___init__ ["self", "rows"] (SpA 2 (sp_Machine___init__ T.C_Machine)) := by
  refine T.F_Machine___init__.ok sc_Machine___init__ (fun vs H Q E h => SpA.len h) (fun cdv A outer s H vs Q E hr h => ?_)
  refine ⟨_, (pss_cons (ps_expr (pe_call (ok_must_rows T) (hr.mono (by decide)) (by rfl) T.g_must_rows T.F_must_rows.kp T.b_must_rows .nil pass0 (pa_cons (pv 1) pa_nil)))
 (pss_cons (ps_if (pt_cmpR op_gt (pe_callB (call_lenK K rfl) (by rfl) T.z_len (by decide +kernel) (pa_cons (pv 1) pa_nil)) (pe_glob (v := .int 400) rfl T.c_MOST_STATES ⟨_, rfl⟩) (nomark _)) (pss_one ps_dead) pss_nil)
 (pss_one (ps_fld (pv 0) (pe_call (ok_least T) (hr.mono (by decide)) (by rfl) T.g_least T.F_least.kp T.b_least .nil pass0 (pa_cons (pe_lc (own := [("ends", 2), ("ways", 3)]) (g := gTup _ 2 (gCons (gName 2) (gCons (gName 3) gNil))) (tt := tYes) rfl sc_Machine___init__.nd (pi_listK K rfl (pv 1)) (blkOk_by (own := [("ends", 2), ("ways", 3)]) (N := ["self", "rows", "ends", "ways"]) (sc := defScope s_Machine___init__) (by decide +kernel)) (fun _ _ _ _ _ => (pg_tup (by rfl) (pgs_cons (pg_name (i := 2) sc_Machine___init__.nd rfl (Or.inl rfl)) (pgs_cons (pg_name (i := 3) sc_Machine___init__.nd rfl (Or.inl rfl)) pgs_nil)))) (fun _ _ _ _ _ => pts_nil) (fun _ _ _ _ _ => (pe_tup (pa_cons (pv 2) (pa_cons (pe_callTy (cr_xdictK K rfl rfl rfl hr.units) (by rfl) T.z_dict (by decide +kernel) (pa_cons (pv 3) pa_nil)) pa_nil))))) pa_nil)) rfl)))), fn_read (N := ["self", "rows", "ends", "ways"]) (ab := (ab_Machine___init__ T.C_Machine)) (fun ea => ?_) red_Machine___init__ h⟩
  unfold ab_Machine___init__
  exact (RS.seq (RS.dropN (RN.call0 (asp := sp_must_rows) (RA.cons RE.var RA.nil)))
 (RS.seq (RS.ifs (RT.test (RE.op oGt_ok (RE.cb bLen_ok (RR.cons RE.var RR.nil)) RE.int))
 RS.deadD
 RS.next)
 (RS.setF T.c_Machine T.n_Machine_states RE.var (RE.fz (RN.call0 (asp := sp_least) (RA.cons (RE.fz (RN.lc (RI.list RE.var) (RG.tp (RGs.cons RG.nm (RGs.cons RG.nm RGs.nil)) rfl) RT.yes (RE.tup (RA.cons RE.var (RA.cons (RE.fz (RN.xdict (RR.cons RE.var RR.nil))) RA.nil))) (by decide))) RA.nil))))))
end
end K13

set_option Elab.async false
set_option linter.all false
set_option maxRecDepth 100000
set_option maxHeartbeats 1000000
/-! K13O: counts and the shortest, as the program finds them. -/
namespace K13
open PySem PySem.Spec PyProof.Rows L2 Zi K06
open PySem.W (minD AlikeAll)
variable [Zi.Wd]
/-! ### counts -/
abbrev intD (i : Int) : D := .int i
def addAt (c : List Int) (g : Nat) (x : Int) : List Int := c.set g (c.getD g 0 + x)
def addRow (M : Tab) (c : List Int) (more : List Int) (i : Nat) : List Int := (row M i).2.foldl (fun m w => addAt m w.2 (c.getD i 0)) more
def stepV (M : Tab) (c : List Int) : List Int := (List.range M.length).foldl (addRow M c) (List.replicate M.length 0)
def iterV (M : Tab) : Nat → List Int
  | 0 => (List.replicate M.length 0).set 0 1
  | n + 1 => stepV M (iterV M n)
def countF (M : Tab) (n : Nat) (b : Bool) : Int := (((iterV M n).zip M).filter fun p => p.2.1 || !b).map (·.1) |>.sum
theorem addAt_len (c : List Int) (g : Nat) (x : Int) : (addAt c g x).length = c.length := List.length_set
theorem adds_lenV {c : List Int} {i : Nat} : ∀ (l : List Way) (more : List Int), (l.foldl (fun m w => addAt m w.2 (c.getD i 0)) more).length = more.length
  | [], _ => rfl
  | w :: l, more => by
    show (l.foldl _ (addAt more w.2 (c.getD i 0))).length = _
    rw [adds_lenV l, addAt_len]
theorem addRow_len (M : Tab) (c more : List Int) (i : Nat) : (addRow M c more i).length = more.length := adds_lenV _ _
theorem addRows_len (M : Tab) (c : List Int) : ∀ (l : List Nat) (more : List Int), (l.foldl (addRow M c) more).length = more.length
  | [], _ => rfl
  | i :: l, more => by
    show (l.foldl (addRow M c) (addRow M c more i)).length = _
    rw [addRows_len M c l, addRow_len]
theorem stepV_len (M : Tab) (c : List Int) : (stepV M c).length = M.length := by unfold stepV; rw [addRows_len, List.length_replicate]
theorem iterV_len (M : Tab) : ∀ n, (iterV M n).length = M.length
  | 0 => by unfold iterV; rw [List.length_set, List.length_replicate]
  | n + 1 => stepV_len M _
theorem flat_rep (n : Nat) : (List.replicate n [D.int 0]).flatten = (List.replicate n (0 : Int)).map D.int := by
  induction n with
  | zero => rfl
  | succ n ih => rw [List.replicate_succ, List.flatten_cons, ih, List.replicate_succ]; rfl
/-! ### the shortest -/
abbrev Hist := List Exch
abbrev Ent := Hist × Nat
def addA (h : Hist) (acc : List Ent) (w : Way) : List Ent := if w.2 ∈ acc.map (·.2) then acc else acc ++ [(h ++ [w.1], w.2)]
def stepA (M : Tab) (acc : List Ent) (e : Ent) : List Ent := (row M e.2).2.foldl (addA e.1) acc
def accN (M : Tab) : Nat → List Ent
  | 0 => [([], 0)]
  | k + 1 => match (accN M k)[k]? with
    | some e => stepA M (accN M k) e
    | none => accN M k
def accF (M : Tab) : List Ent := accN M M.length
def shortF (M : Tab) (b : Bool) : Option Hist := ((accF M).find? fun e => (row M e.2).1 || !b).map (·.1)
theorem addA_ok {n : Nat} {h : Hist} {acc : List Ent} {w : Way} (nd : (acc.map (·.2)).Nodup) (lt : ∀ e ∈ acc, e.2 < n) (hw : w.2 < n) : ((addA h acc w).map (·.2)).Nodup ∧ ∀ e ∈ addA h acc w, e.2 < n := by
  unfold addA
  split
  · exact ⟨nd, lt⟩
  · rename_i hn
    refine ⟨?_, fun e he => ?_⟩
    · rw [List.map_append]
      refine List.nodup_append.mpr ⟨nd, by simp, fun a ha b hb => ?_⟩
      rw [List.map_cons, List.map_nil, List.mem_singleton] at hb
      intro z
      rw [z, hb] at ha
      exact hn ha
    · rcases List.mem_append.mp he with he | he
      · exact lt e he
      · rw [List.mem_singleton.mp he]; exact hw
theorem addAs_ok {n : Nat} {h : Hist} : ∀ {l : List Way} {acc : List Ent}, (acc.map (·.2)).Nodup → (∀ e ∈ acc, e.2 < n) → (∀ w ∈ l, w.2 < n) → ((l.foldl (addA h) acc).map (·.2)).Nodup ∧ ∀ e ∈ l.foldl (addA h) acc, e.2 < n
  | [], _, nd, lt, _ => ⟨nd, lt⟩
  | w :: l, acc, nd, lt, hl => by
    obtain ⟨a, b⟩ := addA_ok (h := h) nd lt (hl w List.mem_cons_self)
    exact addAs_ok (l := l) (acc := addA h acc w) a b fun w hw => hl w (List.mem_cons_of_mem _ hw)
theorem accN_ok {M : Tab} (T : TabOk M) : ∀ k, ((accN M k).map (·.2)).Nodup ∧ ∀ e ∈ accN M k, e.2 < M.length
  | 0 => ⟨by simp [accN], fun e he => by rw [List.mem_singleton.mp he]; exact T.pos⟩
  | k + 1 => by
    unfold accN
    obtain ⟨a, b⟩ := accN_ok T k
    split
    · exact addAs_ok a b (T.lts _)
    · exact ⟨a, b⟩
theorem accN_len {M : Tab} (T : TabOk M) (k : Nat) : (accN M k).length ≤ M.length := by
  have := nodup_few (accN_ok T k).1 (n := M.length) fun x hx => by
    obtain ⟨e, he, rfl⟩ := List.mem_map.mp hx
    exact (accN_ok T k).2 e he
  rwa [List.length_map] at this
theorem accN_stop {M : Tab} {k : Nat} (h : (accN M k).length ≤ k) : ∀ j, accN M (k + j) = accN M k
  | 0 => rfl
  | j + 1 => by
    have ih := accN_stop h j
    show (match (accN M (k + j))[k + j]? with | some e => stepA M (accN M (k + j)) e | none => accN M (k + j)) = _
    rw [ih, List.getElem?_eq_none (by omega)]
theorem addAs_pre {h : Hist} : ∀ {l : List Way} {acc : List Ent}, ∃ r, l.foldl (addA h) acc = acc ++ r
  | [], acc => ⟨[], by simp⟩
  | w :: l, acc => by
    obtain ⟨r, e⟩ := addAs_pre (h := h) (l := l) (acc := addA h acc w)
    have e : (w :: l).foldl (addA h) acc = addA h acc w ++ r := e
    rw [e]
    unfold addA
    split
    · exact ⟨r, rfl⟩
    · exact ⟨[(h ++ [w.1], w.2)] ++ r, by simp⟩
theorem accN_pre (M : Tab) (k : Nat) : ∀ j, ∃ r, accN M (k + j) = accN M k ++ r
  | 0 => ⟨[], by simp⟩
  | j + 1 => by
    obtain ⟨r, e⟩ := accN_pre M k j
    show ∃ r, (match (accN M (k + j))[k + j]? with | some e => stepA M (accN M (k + j)) e | none => accN M (k + j)) = _
    split
    · rename_i x _
      obtain ⟨r2, e2⟩ := addAs_pre (h := x.1) (l := (row M x.2).2) (acc := accN M (k + j))
      exact ⟨r ++ r2, by unfold stepA; rw [e2, e, List.append_assoc]⟩
    · exact ⟨r, e⟩
theorem accF_eq {M : Tab} {k : Nat} (h : (accN M k).length ≤ k) (hk : k ≤ M.length) : accF M = accN M k := by
  have := accN_stop h (M.length - k)
  rw [show k + (M.length - k) = M.length by omega] at this
  exact this
theorem accF_pre {M : Tab} {k : Nat} (hk : k ≤ M.length) : ∃ r, accF M = accN M k ++ r := by
  have := accN_pre M k (M.length - k)
  rw [show k + (M.length - k) = M.length by omega] at this
  exact this
/-- the first that will do stands at k -/
theorem shortF_at {M : Tab} {b : Bool} {k : Nat} {e : Ent} (hk : k ≤ M.length) (he : (accN M k)[k]? = some e) (no : ∀ i x, i < k → (accN M k)[i]? = some x → ((row M x.2).1 || !b) = false) (yes : ((row M e.2).1 || !b) = true) : shortF M b = some e.1 := by
  obtain ⟨r, er⟩ := accF_pre hk
  unfold shortF
  have hl : k < (accN M k).length := (List.getElem?_eq_some_iff.mp he).1
  have s1 : accN M k = (accN M k).take k ++ e :: (accN M k).drop (k + 1) := by
    have := List.take_append_drop k (accN M k)
    rw [List.drop_eq_getElem_cons hl, (List.getElem?_eq_some_iff.mp he).2] at this
    exact this.symm
  rw [er, s1, List.append_assoc, List.find?_append]
  have n1 : ((accN M k).take k).find? (fun e => (row M e.2).1 || !b) = none := by
    rw [List.find?_eq_none]
    intro x hx
    obtain ⟨i, hi, ex⟩ := List.getElem_of_mem hx
    rw [List.length_take] at hi
    have := no i x (by omega) (by rw [← ex, List.getElem_take, List.getElem?_eq_getElem])
    rw [this]; decide
  rw [n1, Option.none_or, List.cons_append, List.find?_cons, yes]; rfl
theorem shortF_none {M : Tab} {b : Bool} {k : Nat} (hk : k ≤ M.length) (hl : (accN M k).length ≤ k) (no : ∀ i x, i < k → (accN M k)[i]? = some x → ((row M x.2).1 || !b) = false) : shortF M b = none := by
  unfold shortF
  rw [accF_eq hl hk]
  have : (accN M k).find? (fun e => (row M e.2).1 || !b) = none := by
    rw [List.find?_eq_none]
    intro x hx
    obtain ⟨i, hi, ex⟩ := List.getElem_of_mem hx
    have := no i x (by omega) (by rw [List.getElem?_eq_getElem hi, ex])
    rw [this]; decide
  rw [this]; rfl
theorem addAs_hist {n : Nat} {h : Hist} (hh : h.length ≤ n) : ∀ {l : List Way} {acc : List Ent}, (∀ e ∈ acc, e.1.length ≤ n + 1) → ∀ e ∈ l.foldl (addA h) acc, e.1.length ≤ n + 1
  | [], _, k => k
  | w :: l, acc, k => by
    refine addAs_hist hh (l := l) (acc := addA h acc w) fun e he => ?_
    unfold addA at he
    split at he
    · exact k e he
    · rcases List.mem_append.mp he with he | he
      · exact k e he
      · rw [List.mem_singleton.mp he, List.length_append, List.length_singleton]; omega
theorem accN_hist (M : Tab) : ∀ k, ∀ e ∈ accN M k, e.1.length ≤ k
  | 0 => fun e he => by rw [List.mem_singleton.mp he]; exact Nat.le_refl _
  | k + 1 => by
    unfold accN
    split
    · rename_i x hx
      exact addAs_hist (accN_hist M k x (List.mem_of_getElem? hx)) fun e he => Nat.le_succ_of_le (accN_hist M k e he)
    · exact fun e he => Nat.le_succ_of_le (accN_hist M k e he)
theorem pairs_ways (ws : List Way) : pairsD ((dP exD natD ws).map (·.1)) ((dP exD natD ws).map (·.2)) = ws.map wayL := by
  rw [pairsD_zip, zip_self]
  unfold dP
  rw [List.map_map]; rfl
end K13

set_option Elab.async false
set_option linter.all false
set_option maxRecDepth 100000
set_option maxHeartbeats 400000
set_option pp.deepTerms false
set_option pp.maxSteps 400
namespace K13
open PySem PySem.Spec PyProof.Rows L2 Ly Zi Zs Lc K06
open PySem.W (minD AlikeAll)
local macro_rules | `(tactic| walk_at "z") => `(tactic| simp (config := { dsimp := false }) only [aSeq, aIf, aT, aYes, aAnd, aOr, aNot, aOp, aOpL, aUn, aVar, aC, aRaw, aMove, pk, q_peek_w, q_peek_s, q_peekW_d, q_peekW_loc, q_cellD_lst, q_cellD_dic, ↓q_toW_w, q_toW_w, ↓q_toW_s, q_toW_s, ↓q_toL_w, q_toL_w, ↓q_toL_s, q_toL_s, ↓q_nToW_w, q_nToW_w, ↓q_nToW_lst, q_nToW_lst, ↓q_nToW_dic, q_nToW_dic, q_put_w, q_put_n, q_getC_loc, q_getC_s, q_putC_loc, q_putC_s, aFz, aN, aAsg, aAsgT, q_bind_nm, q_bind_tp, q_binds_nil, q_binds_cons, aRet, aRetN, aDrop, aDropN, aNext, aBreak, aCont, aAug, aSetIx, aDPut, aCall, aCons, aConsL, aNil, aLst, aTup, lstC, wsD, rCons, rNil, pks, aCB, aCBL, aBM, aBM0, isL, mAppend, mPop, mPopAt,
  aSlL, aSlT, aRevL, aNo, aSome, aAndV, aOrV, aNotV, aIfE, aChain, aDIn, aDGet, aDNew, withDic, Zi.keyOf, cut2, part32, eqD_str, inD2, all_str2, aFor, aForE, comesBack, aLc, aSortSet, aPutS, aCl, aIL, aIT, aIR1, aIR2, aIE, aIZ, aIS, wipeE, backE,
  q_cellD_dit, q_nToW_dit, q_key_int, aXGet, aXIn, aXGet1, aXNew, aXPut, aXSetd, withX, bXLen, aIXK, aIXI, aXDict, aXOne, aXDc, aXEmit, aNLen, aNEmit, aFld, aSetF, aMake, aAugS, bAll, bAny, bSum, bInt, aTupOf, aLenSet, oRep, aCallD, aCallN, aTupW, aIxW, aAsgW, eqI2, eqI3, aLenW, aDead, bLenS, aConsN, nToL, w0s, bindWs, W0.w, oAdd, oSub, oMul, oMulW, oMod, oDiv, oDivW, oPow, oLt, oLe, oGt, oGe, oI, oIc, oEq, oNe, oIn, oIx, oCat, oAddS, oInS, oIs, oIsNot, oIsB, oIsNB, Zi.isNon, oNeg, oBits, bLen, bList, bMax2, bMin2, bMin, aIsi, aSetSl, tyN, kit_NoneType_bool, kit_NoneType_int, kit_NoneType_str, kit_NoneType_list, kit_NoneType_tuple, kit_NoneType_dict, kit_bool_bool, kit_bool_int, kit_bool_str, kit_bool_list, kit_bool_tuple, kit_bool_dict, kit_int_bool, kit_int_int, kit_int_str, kit_int_list, kit_int_tuple, kit_int_dict, kit_str_bool, kit_str_int, kit_str_str, kit_str_list, kit_str_tuple, kit_str_dict, kit_list_bool, kit_list_int, kit_list_str, kit_list_list, kit_list_tuple, kit_list_dict, kit_tuple_bool, kit_tuple_int, kit_tuple_str, kit_tuple_list, kit_tuple_tuple, kit_tuple_dict, kit_dict_bool, kit_dict_int, kit_dict_str, kit_dict_list, kit_dict_tuple, kit_dict_dict, 
  List.getElem?_cons_zero, List.getElem?_cons_succ, List.set_cons_zero, List.set_cons_succ, List.length_cons, List.length_nil, List.set_set, List.getElem?_set_self, Nat.zero_le, okD_nil, okD_str, okD_int, okD_bl, okD_non, ea0, at0, at1, at2, at3, ix0, ix1, ix2, true_and, and_true, Bool.false_eq_true, Bool.not_true, Bool.not_false, ↓reduceIte, *])
local macro_rules | `(tactic| walk_at "y") => `(tactic| simp only [aSeq, aIf, aT, aYes, aAnd, aOr, aNot, aOp, aOpL, aUn, aVar, aC, aRaw, aMove, pk, q_peek_w, q_peek_s, q_peekW_d, q_peekW_loc, q_cellD_lst, q_cellD_dic, ↓q_toW_w, q_toW_w, ↓q_toW_s, q_toW_s, ↓q_toL_w, q_toL_w, ↓q_toL_s, q_toL_s, ↓q_nToW_w, q_nToW_w, ↓q_nToW_lst, q_nToW_lst, ↓q_nToW_dic, q_nToW_dic, q_put_w, q_put_n, q_getC_loc, q_getC_s, q_putC_loc, q_putC_s, aFz, aN, aAsg, aAsgT, q_bind_nm, q_bind_tp, q_binds_nil, q_binds_cons, aRet, aRetN, aDrop, aDropN, aNext, aBreak, aCont, aAug, aSetIx, aDPut, aCall, aCons, aConsL, aNil, aLst, aTup, lstC, wsD, rCons, rNil, pks, aCB, aCBL, aBM, aBM0, isL, mAppend, mPop, mPopAt,
  aSlL, aSlT, aRevL, aNo, aSome, aAndV, aOrV, aNotV, aIfE, aChain, aDIn, aDGet, aDNew, withDic, Zi.keyOf, cut2, part32, eqD_str, inD2, all_str2, aFor, aForE, comesBack, aLc, aSortSet, aPutS, aCl, aIL, aIT, aIR1, aIR2, aIE, aIZ, aIS, wipeE, backE,
  q_cellD_dit, q_nToW_dit, q_key_int, aXGet, aXIn, aXGet1, aXNew, aXPut, aXSetd, withX, bXLen, aIXK, aIXI, aXDict, aXOne, aXDc, aXEmit, aNLen, aNEmit, aFld, aSetF, aMake, aAugS, bAll, bAny, bSum, bInt, aTupOf, aLenSet, oRep, aCallD, aCallN, aTupW, aIxW, aAsgW, eqI2, eqI3, aLenW, aDead, bLenS, aConsN, nToL, w0s, bindWs, W0.w, oAdd, oSub, oMul, oMulW, oMod, oDiv, oDivW, oPow, oLt, oLe, oGt, oGe, oI, oIc, oEq, oNe, oIn, oIx, oCat, oAddS, oInS, oIs, oIsNot, oIsB, oIsNB, Zi.isNon, oNeg, oBits, bLen, bList, bMax2, bMin2, bMin, aIsi, aSetSl, tyN, kit_NoneType_bool, kit_NoneType_int, kit_NoneType_str, kit_NoneType_list, kit_NoneType_tuple, kit_NoneType_dict, kit_bool_bool, kit_bool_int, kit_bool_str, kit_bool_list, kit_bool_tuple, kit_bool_dict, kit_int_bool, kit_int_int, kit_int_str, kit_int_list, kit_int_tuple, kit_int_dict, kit_str_bool, kit_str_int, kit_str_str, kit_str_list, kit_str_tuple, kit_str_dict, kit_list_bool, kit_list_int, kit_list_str, kit_list_list, kit_list_tuple, kit_list_dict, kit_tuple_bool, kit_tuple_int, kit_tuple_str, kit_tuple_list, kit_tuple_tuple, kit_tuple_dict, kit_dict_bool, kit_dict_int, kit_dict_str, kit_dict_list, kit_dict_tuple, kit_dict_dict, 
  List.getElem?_cons_zero, List.getElem?_cons_succ, List.set_cons_zero, List.set_cons_succ, List.length_cons, List.length_nil, List.set_set, List.getElem?_set_self, Nat.zero_le, okD_nil, okD_str, okD_int, okD_bl, okD_non, ea0, at0, at1, at2, at3, ix0, ix1, ix2, true_and, and_true, Bool.false_eq_true, Bool.not_true, Bool.not_false, ↓reduceIte, *])

section
variable {P : Program} [Zi.Wd] {K : PySem.W.Frag} {mg : Str → Option Value} {base : Heap}

/-- the machine with these states -/
def machC (C : Addr) (M : Tab) : Cell := .ins C [("states", .d (.lst (M.map rowD)))]
theorem look_states {M : Tab} : ([((Str.ofString "states" : Str), W.d (.lst (M.map rowD)))] : List (Str × W)).lookup (Str.ofString "states") = some (.d (.lst (M.map rowD))) := rfl
theorem forGo_ty2 {α : Type} {t : Tgt} {b : ASt} {N : AEnds} {ks : List D} (tD : α → D) (I : List α → List α → AS → Prop) (xs : List α) (hks : ks = xs.map tD) (hnil : ∀ s, I xs [] s → N.nx s)
    (hcons : ∀ pre x ys s (k : AS → Prop), xs = pre ++ x :: ys → (∀ s, I (pre ++ [x]) ys s → k s) → I pre (x :: ys) s → match bindT t (tD x) s.env with | some env' => b ⟨k, N.rt, N.nx, k⟩ ⟨env', s.st⟩ | none => False) :
    ∀ s, I [] xs s → forGo t b N ks s := by
  subst hks
  exact forGo_ty tD I xs hnil hcons
theorem lcGo_ty2 {α : Type} {t : Tgt} {c : AT} {e : AE} {vs : List Nat} {k : List D → AS → Prop} {E0 : List Sl} {st : List Cell} {ks : List D} (tD : α → D) (f : α → Bool) (g : α → D) (xs : List α) (hks : ks = xs.map tD) (hl : xs.length ≤ 100000)
    (h : ∀ x ∈ xs, ∃ env', bindT t (tD x) E0 = some env' ∧ wipeE env' vs = E0 ∧ (∀ A : Bool → AS → Prop, A (f x) ⟨env', st⟩ → c ⟨env', st⟩ A) ∧ (f x = true → ∀ A : R → AS → Prop, A (.w (.d (g x))) ⟨env', st⟩ → e ⟨env', st⟩ A))
    (hk : k ((xs.filter f).map g) ⟨E0, st⟩) : lcGo t c e vs k ks ⟨E0, st⟩ [] := by
  subst hks
  exact lcGo_ty tD f g xs hl h hk
theorem zipD_map {α β : Type} (f : α → D) (g : β → D) : ∀ (xs : List α) (ys : List β), zipD (xs.map f) (ys.map g) = (xs.zip ys).map fun p => .tup [f p.1, g p.2]
  | [], ys => by cases ys <;> rfl
  | x :: xs, [] => rfl
  | x :: xs, y :: ys => by
    rw [List.map_cons, List.map_cons, List.zip_cons_cons, List.map_cons, ← zipD_map f g xs ys]
    rfl
theorem keys_ws {ws : List Way} (nd : (keys ws).Nodup) : (keys ws).map (fun e => (e, (lookA ws e).getD 0)) = ws := by
  have := keys_look nd (fun n => n)
  rw [this]
  exact List.map_id _
theorem addRow_keys {M : Tab} {c more : List Int} {i : Nat} (nd : (keys (row M i).2).Nodup) : (keys (row M i).2).foldl (fun m e => addAt m ((lookA (row M i).2 e).getD 0) (c.getD i 0)) more = addRow M c more i := by
  unfold addRow
  have e := keys_ws nd
  generalize hk : keys (row M i).2 = ks at *
  have : (row M i).2.foldl (fun m w => addAt m w.2 (c.getD i 0)) more = (ks.map fun e => (e, (lookA (row M i).2 e).getD 0)).foldl (fun m w => addAt m w.2 (c.getD i 0)) more := by rw [e]
  rw [this, List.foldl_map]
theorem getI_at {c : List Int} {i : Nat} (h : i < c.length) : c[i]? = some (c.getD i 0) := by
  rw [List.getD_eq_getElem?_getD, List.getElem?_eq_getElem h]; rfl
def ab_count_of (C_Machine : Addr) : XA → ASt := fun ea =>
 (aSeq (aAsg 3 (aOpL oRep (aFz (aLst (aCons (aC (.int 0)) aNil))) (aCB bLen (rCons (aFld C_Machine "states" (aVar 0)) rNil))))
 (aSeq (aSetIx (aC (.int 1)) (aVar 3) (aC (.int 0)))
 (aSeq (aFor (aIR1 (rCons (aVar 1) rNil)) (.nm 4)
 (aSeq (aAsg 5 (aOpL oRep (aFz (aLst (aCons (aC (.int 0)) aNil))) (aCB bLen (rCons (aVar 3) rNil))))
 (aSeq (aFor (aIE (aCons (aFld C_Machine "states" (aVar 0)) aNil)) (.tp [(.nm 6), (.tp [(.nm 7), (.nm 8)])])
 (aFor (aIXK (aVar 8)) (.nm 9)
 (aAugS (aVar 5) (aXGet (aVar 8) (aVar 9)) (aOp oIx (aVar 3) (aVar 6)) (fun i j => i + j))))
 (aAsg 3 (aN (aVar 5))))))
 (aRet (aN (aCB bSum (rCons (aFz (aLc (aIZ (aCons (aVar 3) (aCons (aFld C_Machine "states" (aVar 0)) aNil))) (.tp [(.nm 10), (.nm 11)]) (aOr (aT (aOp oIx (aVar 11) (aC (.int 0)))) (aNot (aT (aVar 2)))) (aVar 10) [10, 11])) rNil)))))))
theorem go_count_of {C_Machine : Addr} {w0 w1 w2 : W} {st : List Cell} {A : Zi.N → List Cell → Prop} {Ea : XA} (h : (ab_count_of C_Machine) Ea ⟨fun s => A (.w (.d .non)) s.st, A, fun _ => False, fun _ => False⟩ ⟨[.v w0, .v w1, .v w2, .no, .no, .no, .no, .no, .no, .no, .no, .no], st⟩) : aFn 12 (ab_count_of C_Machine) [w0, w1, w2] st A Ea := h
def sp_count_of (C_Machine : Addr) : ASp := fun ws st A _ => ∃ (p n : Nat) (b : Bool) (M : Tab), ws = [.loc p, .d (natD n), .d (.bl b)] ∧ st[p]? = some (machC C_Machine M) ∧ TabOk M ∧ n ≤ 1000 ∧ A (.w (.d (.int (countF M n b)))) st
theorem red_count_of {C_Machine : Addr} (ws st A Ea) (_ : ws.length = 3) (h : sp_count_of C_Machine ws st A Ea) : aFn 12 (ab_count_of C_Machine) ws st A Ea := by
  obtain ⟨p, n, b, M, rfl, hp, T, hn, q⟩ := h
  refine go_count_of ?_
  unfold ab_count_of
  have hlk := look_states (M := M)
  have few := T.few
  have pos := T.pos
  unfold machC at hp
  walk_at "z"
  have hM : (M.map rowD).length = M.length := List.length_map ..
  refine ⟨by decide, Int.natCast_nonneg _, by rw [hM]; omega, by rw [hM, Int.toNat_natCast]; exact size1000 (by simp; omega), ?_⟩
  have e0 : (List.replicate ((M.map rowD).length : Int).toNat [D.int 0]).flatten = (List.replicate M.length (0 : Int)).map intD := by rw [hM, Int.toNat_natCast, flat_rep]
  have e1 : ixN ((List.replicate M.length (0 : Int)).map intD).length 0 = some 0 := by
    rw [List.length_map, List.length_replicate]
    unfold ixN
    rw [if_pos (by decide), if_pos (by omega)]; rfl
  rw [e0, e1]
  refine ⟨⟨by omega, by omega⟩, ?_⟩
  have e2 : ((List.replicate M.length (0 : Int)).map intD).set 0 (D.int 1) = (iterV M 0).map intD := by
    unfold iterV
    rw [List.map_set]
  rw [e2]
  refine forGo_ind (fun ds s => ∃ k y3 y4 y5 y6 y7 y8 y9, ds.length + k = n ∧ s = ⟨[.v (.loc p), .v (.d (natD n)), .v (.d (.bl b)), y3, y4, y5, y6, y7, y8, y9, .no, .no], st⟩ ∧ (y3 = .own (.lst ((iterV M k).map intD)) ∨ y3 = .v (.d (.lst ((iterV M k).map intD))))) ?_ ?_ _ _ ⟨0, _, _, _, _, _, _, _, by rw [upto_length]; simp, rfl, .inl rfl⟩
  · rintro s ⟨k, y3, y4, y5, y6, y7, y8, y9, hk, rfl, h3⟩
    have hk : k = n := by simpa using hk
    subst hk
    clear e0 e1 e2
    rcases h3 with rfl | rfl
    all_goals
      walk_at "z"
      refine lcGo_ty2 (fun p : Int × Row => D.tup [intD p.1, rowD p.2]) (fun p => p.2.1 || !b) (fun p => intD p.1) ((iterV M k).zip M) (zipD_map intD rowD _ _) (by rw [List.length_zip]; omega) ?_ ?_
      · refine fun p hp => ⟨_, rfl, rfl, fun A hA => ?_, fun _ A hA => hA⟩
        have b2 : rowD p.2 = .tup [.bl p.2.1, waysD p.2.2] := rfl
        rw [b2]
        clear hlk q
        walk_at "z"
        by_cases z : p.2.1 = true
        · rw [if_pos z]
          rw [z] at hA
          exact hA
        · rw [if_neg z]
          rw [Bool.not_eq_true] at z
          rw [z] at hA
          exact hA
      · have ei : intsD ((((iterV M k).zip M).filter fun p => p.2.1 || !b).map fun p => intD p.1) = some ((((iterV M k).zip M).filter fun p => p.2.1 || !b).map fun p => p.1) := intsD_map (fun p : Int × Row => p.1) _
        walk_at "z"
        exact q
  · rintro d ds s k' hk ⟨k, y3, y4, y5, y6, y7, y8, y9, hn2, rfl, h3⟩
    rw [List.length_cons] at hn2
    have hk2 := fun y4 y5 y6 y7 y8 y9 => hk _ ⟨k + 1, _, y4, y5, y6, y7, y8, y9, by omega, rfl, .inr rfl⟩
    have hlen := iterV_len M k
    have es : iterV M (k + 1) = stepV M (iterV M k) := rfl
    rw [es] at hk2
    unfold stepV at hk2
    clear hk q e1 e2 es
    generalize iterV M k = c at *
    rcases h3 with rfl | rfl
    all_goals
      simp only [q_bind_nm, List.set_cons_succ, List.set_cons_zero]
      walk_at "z"
      have e3 : (List.replicate ((c.map intD).length : Int).toNat [D.int 0]).flatten = (List.replicate M.length (0 : Int)).map intD := by rw [List.length_map, Int.toNat_natCast, hlen, flat_rep]
      refine ⟨by decide, Int.natCast_nonneg _, by rw [List.length_map]; omega, by rw [List.length_map, Int.toNat_natCast]; exact size1000 (by simp; omega), ?_⟩
      rw [e3, enumD_map]
      clear e3 e0
      refine forGo_ty (fun p : Row × Nat => D.tup [natD p.2, rowD p.1]) (fun pre ys s => ∃ y6 y7 y8 y9, s = ⟨[.v (.loc p), .v (.d (natD n)), .v (.d (.bl b)), _, .v (.d d), .own (.lst (((List.range pre.length).foldl (addRow M c) (List.replicate M.length 0)).map intD)), y6, y7, y8, y9, .no, .no], st⟩) M.zipIdx ?_ ?_ _ ⟨_, _, _, _, rfl⟩
      · rintro s ⟨y6, y7, y8, y9, rfl⟩
        rw [List.length_zipIdx]
        walk_at "z"
        try exact hk2 _ _ _ _ _ _
      · rintro pre q ys s k2 e1 hk3 ⟨y6, y7, y8, y9, rfl⟩
        obtain ⟨r, i⟩ := q
        obtain ⟨rfl, hr, _⟩ := zip_at e1
        have hi : pre.length < M.length := (List.getElem?_eq_some_iff.mp hr).1
        have er : row M pre.length = r := by
          have := row_at hi
          rw [hr] at this
          exact (Option.some.inj this).symm
        have hk4 := fun y6 y7 y8 y9 => hk3 _ ⟨y6, y7, y8, y9, rfl⟩
        rw [List.length_append, List.length_singleton, List.range_succ, List.foldl_append] at hk4
        have hal := addRows_len M c (List.range pre.length) (List.replicate M.length 0)
        rw [List.length_replicate] at hal
        generalize (List.range pre.length).foldl (addRow M c) (List.replicate M.length 0) = more at *
        have hst : [pre.length].foldl (addRow M c) more = addRow M c more pre.length := rfl
        have nd := T.nds pre.length
        have hlt := T.lts pre.length
        rw [hst, ← addRow_keys nd] at hk4
        rw [er] at hk4 hlt nd
        have b1 := atI_map (f := intD) (getI_at (c := c) (i := pre.length) (by omega))
        have b2 : rowD r = .tup [.bl r.1, waysD r.2] := rfl
        have b3 : waysD r.2 = .dit true ((dP exD natD r.2).map (·.1)) ((dP exD natD r.2).map (·.2)) := rfl
        generalize c.getD pre.length 0 = x at *
        clear hk3 e1 hk2 hst hn2
        rw [b2]
        walk_at "z"
        show forGo _ _ _ ((dP exD natD r.2).map (·.1)) _
        refine forGo_ty2 exD (fun pre ys s => ∃ y9, s = ⟨[.v (.loc p), .v (.d (natD n)), .v (.d (.bl b)), _, .v (.d d), .own (.lst ((pre.foldl (fun m e => addAt m ((lookA r.2 e).getD 0) x) more).map intD)), .v (.d (natD (List.length _))), .v (.d (.bl r.1)), .v (.d (.dit true ((dP exD natD r.2).map (·.1)) ((dP exD natD r.2).map (·.2)))), y9, .no, .no], st⟩) (keys r.2) (dP_keys r.2) ?_ ?_ _ ⟨_, rfl⟩
        · rintro s ⟨y9, rfl⟩
          exact hk4 _ _ _ _
        · rintro pre2 e ys2 s k3 e2 hk5 ⟨y9, rfl⟩
          have he : e ∈ keys r.2 := by rw [e2]; simp
          have hk6 := fun y9 => hk5 _ ⟨y9, rfl⟩
          rw [List.foldl_append] at hk6
          have hml : (pre2.foldl (fun m e => addAt m ((lookA r.2 e).getD 0) x) more).length = M.length := by
            rw [← hal]
            clear hk6 hk5 hk4 e2
            generalize more = mm
            induction pre2 generalizing mm with
            | nil => rfl
            | cons a l ih => exact (ih _).trans (addAt_len _ _ _)
          generalize pre2.foldl (fun m e => addAt m ((lookA r.2 e).getD 0) x) more = mm at *
          have d1 := dlook_key he
          have hg : (lookA r.2 e).getD 0 < M.length := by
            cases z : lookA r.2 e with
            | none => exact absurd he (lookA_none.mp z)
            | some n => exact hlt _ (lookA_mem z)
          have hmm := getI_at (c := mm) (i := (lookA r.2 e).getD 0) (by omega)
          have hst : [e].foldl (fun m e => addAt m ((lookA r.2 e).getD 0) x) mm = mm.set ((lookA r.2 e).getD 0) (mm.getD ((lookA r.2 e).getD 0) 0 + x) := rfl
          rw [hst] at hk6
          generalize (lookA r.2 e).getD 0 = g at *
          generalize mm.getD g 0 = old at *
          have hkx := key_ex e
          clear hk5 e2 hst hk4 b2 b3 hr
          walk_at "z"
          have hmg : (mm.map intD)[g]? = some (.int old) := by rw [List.getElem?_map, hmm]; rfl
          rw [hmg]
          refine ⟨by rw [List.length_map]; omega, ?_⟩
          have := hk6 (.v (.d (exD e)))
          rw [List.map_set] at this
          exact this
theorem ok_count_of (T : Top K mg) : FnOk P w K mg base CX0 1 T.a_count_of T.fd_count_of ["machine", "length", "whole"] (SpA 3 (sp_count_of T.C_Machine)) := by
  refine okKwo T.F_count_of sc_count_of (fun vs H Q E h => SpA.len h) (fun cdv A outer s H vs Q E hr h => ?_)
  refine ⟨_, (pss_cons (ps_set (i := 3) sc_count_of.nd rfl (Or.inl rfl) (pe_op op_rep (pe_lst (pa_cons pe_int pa_nil)) (pe_callB (call_lenK K rfl) (by rfl) T.z_len (by decide +kernel) (pa_cons (pe_fld (pv 0) rfl) pa_nil))))
 (pss_cons (ps_asg pe_int (pg_sub (pv 3) pe_int set_list))
 (pss_cons (ps_for PassesOwn.never rfl (pi_range1 rfl T.z_range (pa_cons (pv 1) pa_nil)) (pg_name (i := 4) sc_count_of.nd rfl (Or.inl rfl)) (pss_cons (ps_set (i := 5) sc_count_of.nd rfl (Or.inl rfl) (pe_op op_rep (pe_lst (pa_cons pe_int pa_nil)) (pe_callB (call_lenK K rfl) (by rfl) T.z_len (by decide +kernel) (pa_cons (pv 3) pa_nil))))
 (pss_cons (ps_for PassesOwn.never rfl (pi_enum (by rfl) T.z_enumerate (pa_cons (pe_fld (pv 0) rfl) pa_nil)) (pg_tup (by rfl) (pgs_cons (pg_name (i := 6) sc_count_of.nd rfl (Or.inl rfl)) (pgs_cons (pg_tup (by rfl) (pgs_cons (pg_name (i := 7) sc_count_of.nd rfl (Or.inl rfl)) (pgs_cons (pg_name (i := 8) sc_count_of.nd rfl (Or.inl rfl)) pgs_nil))) pgs_nil))) (pss_one (ps_for PassesOwn.never rfl (pi_xkeys (pv 8)) (pg_name (i := 9) sc_count_of.nd rfl (Or.inl rfl)) (pss_one (ps_augS (pv 5) (pe_xget rfl hr.units (pv 8) (pv 9) (fun _ _ => rfl)) (pget_list K rfl) (pe_ix (ix_seqK K rfl) (pv 3) (pv 6) (fun _ _ => rfl)) ip_add set_list)))))
 (pss_one (ps_set (i := 3) sc_count_of.nd rfl (Or.inl rfl) (pv 5))))))
 (pss_one (ps_ret (pe_callB (cr_sum rfl) (by rfl) T.z_sum (by decide +kernel) (pa_cons (pe_lc (own := [("count", 10), ("row", 11)]) (g := gTup _ 2 (gCons (gName 10) (gCons (gName 11) gNil))) (tt := _) rfl sc_count_of.nd (pi_zip (by rfl) T.z_zip (pa_cons (pv 3) (pa_cons (pe_fld (pv 0) rfl) pa_nil))) (blkOk_by (own := [("count", 10), ("row", 11)]) (N := ["machine", "length", "whole", "counts", "turn", "more", "number", "ends", "ways", "exchange", "count", "row"]) (sc := defScope s_count_of) (by decide +kernel)) (fun _ _ _ _ _ => (pg_tup (by rfl) (pgs_cons (pg_name (i := 10) sc_count_of.nd rfl (Or.inl rfl)) (pgs_cons (pg_name (i := 11) sc_count_of.nd rfl (Or.inl rfl)) pgs_nil)))) (fun _ _ _ _ _ => pts_one (PW.pt (pw_or (pt_val (pe_ix (ix_seqK K rfl) (pv 11) pe_int (fun _ _ => rfl))) (pw_or1 (pt_not (pt_val (pv 2))))))) (fun _ _ _ _ _ => (pv 10))) pa_nil))))))), fn_read (N := ["machine", "length", "whole", "counts", "turn", "more", "number", "ends", "ways", "exchange", "count", "row"]) (ab := (ab_count_of T.C_Machine)) (fun ea => ?_) red_count_of h⟩
  unfold ab_count_of
  exact (RS.seq (RS.asg (RN.op oRep_ok (RE.fz (RN.lst (RA.cons RE.int RA.nil))) (RE.cb bLen_ok (RR.cons (RE.fld T.c_Machine T.n_Machine_states RE.var) RR.nil))))
 (RS.seq (RS.setIx RE.int RE.var RE.int)
 (RS.seq (RS.for (RI.rng1 (RR.cons RE.var RR.nil)) RG.nm
 (RS.seq (RS.asg (RN.op oRep_ok (RE.fz (RN.lst (RA.cons RE.int RA.nil))) (RE.cb bLen_ok (RR.cons RE.var RR.nil))))
 (RS.seq (RS.for (RI.enum (RA.cons (RE.fld T.c_Machine T.n_Machine_states RE.var) RA.nil)) (RG.tp (RGs.cons RG.nm (RGs.cons (RG.tp (RGs.cons RG.nm (RGs.cons RG.nm RGs.nil)) rfl) RGs.nil)) rfl)
 (RS.for (RI.xkeys RE.var) RG.nm
 (RS.augS RE.var (RE.xget RE.var RE.var) (RE.op oIx_ok RE.var RE.var))))
 (RS.asg (RN.of RE.var)))))
 (RS.ret (RN.of (RE.cb bSum_ok (RR.cons (RE.fz (RN.lc (RI.zip (RA.cons RE.var (RA.cons (RE.fld T.c_Machine T.n_Machine_states RE.var) RA.nil))) (RG.tp (RGs.cons RG.nm (RGs.cons RG.nm RGs.nil)) rfl) (RT.or (RT.b (RE.op oIx_ok RE.var RE.int)) (RT.not (RT.b RE.var))) RE.var (by decide))) RR.nil)))))))
/-- the entries of the queue -/
def entW (L : Nat) (acc : List Ent) : List W := acc.zipIdx.map fun p => W.tp [.loc (L + p.2), .d (natD p.1.2)]
def histC (e : Ent) : Cell := .lst (e.1.map exD)
theorem entW_snoc (L : Nat) (acc : List Ent) (e : Ent) : entW L (acc ++ [e]) = entW L acc ++ [W.tp [.loc (L + acc.length), .d (natD e.2)]] := by
  unfold entW
  rw [zipIdx_snoc, List.map_append]; rfl
theorem entW_at {L : Nat} {acc : List Ent} {i : Nat} {e : Ent} (h : acc[i]? = some e) : L2.atI (entW L acc) (i : Int) = some (.tp [.loc (L + i), .d (natD e.2)]) := by
  refine atI_nat ?_
  unfold entW
  rw [List.getElem?_map, List.getElem?_zipIdx, h]
  simp
def ab_shortest (C_Machine : Addr) : XA → ASt := fun ea =>
 (aSeq (aAsg 2 (aLst (aCons (aTupW (aConsN (aLst aNil) (aCons (aC (.int 0)) aNil))) aNil)))
 (aSeq (aAsg 3 (aXOne 0 (.bl true)))
 (aSeq (aAsg 4 (aN (aC (.int 0))))
 (aSeq (aWhile (aT (aOp oLt (aVar 4) (aLenW (aVar 2))))
 (aSeq (aAsgW [5, 6] (aIxW (aVar 2) (aVar 4)))
 (aSeq (aIf (aOr (aT (aOp oIx (aOp oIx (aFld C_Machine "states" (aVar 0)) (aVar 6)) (aC (.int 0)))) (aNot (aT (aVar 1))))
 (aRet (aMove 5))
 aNext)
 (aSeq (aFor (aIXI (aOp oIx (aOp oIx (aFld C_Machine "states" (aVar 0)) (aVar 6)) (aC (.int 1)))) (.tp [(.nm 7), (.nm 8)])
 (aIf (aT (aXIn true (aVar 8) (aVar 3)))
 (aSeq (aXPut (aVar 3) (aVar 8) (aC (.bl true)))
 (aDrop (aBM mAppend (aVar 2) (aCons (aTupW (aConsN (aOpL oCat (aVar 5) (aFz (aLst (aCons (aVar 7) aNil)))) (aCons (aVar 8) aNil))) aNil))))
 aNext))
 (aAug 4 (fun i j => i + j) (aC (.int 1)))))))
 (aRet (aN (aC .non)))))))
theorem go_shortest {C_Machine : Addr} {w0 w1 : W} {st : List Cell} {A : Zi.N → List Cell → Prop} {Ea : XA} (h : (ab_shortest C_Machine) Ea ⟨fun s => A (.w (.d .non)) s.st, A, fun _ => False, fun _ => False⟩ ⟨[.v w0, .v w1, .no, .no, .no, .no, .no, .no, .no], st⟩) : aFn 9 (ab_shortest C_Machine) [w0, w1] st A Ea := h
def sp_shortest (C_Machine : Addr) : ASp := fun ws st A _ => ∃ (p : Nat) (b : Bool) (M : Tab), ws = [.loc p, .d (.bl b)] ∧ st[p]? = some (machC C_Machine M) ∧ TabOk M ∧ ∀ cs : List Cell, match shortF M b with
  | none => A (.w (.d .non)) (st ++ cs)
  | some h => ∀ i, cs[i]? = some (.lst (h.map exD)) → A (.w (.loc (st.length + i))) (st ++ cs)
theorem red_shortest {C_Machine : Addr} (ws st A Ea) (_ : ws.length = 2) (h : sp_shortest C_Machine ws st A Ea) : aFn 9 (ab_shortest C_Machine) ws st A Ea := by
  obtain ⟨p, b, M, rfl, hp, T, q⟩ := h
  refine go_shortest ?_
  unfold ab_shortest
  have hlk := look_states (M := M)
  have few := T.few
  have pos := T.pos
  unfold machC at hp
  have hpl : p < st.length := (List.getElem?_eq_some_iff.mp hp).1
  have hp2 : ∀ cs : List Cell, (st ++ cs)[p]? = some (.ins C_Machine [((Str.ofString "states" : Str), W.d (.lst (M.map rowD)))]) := fun cs => by
    rw [List.getElem?_append_left hpl]; exact hp
  walk_at "z"
  refine ⟨by decide, ?_⟩
  simp only [Option.map_some]
  refine ⟨by decide, ?_⟩
  refine while_ind (fun m s => ∃ k kds y5 y6 y7 y8, s = ⟨[.v (.loc p), .v (.d (.bl b)), .own (.lsw (entW st.length (accN M k))), .own (.dit false kds), .v (.d (natD k)), y5, y6, y7, y8], st ++ (accN M k).map histC⟩ ∧ kds.map (·.1) = ((accN M k).map (·.2)).map natD ∧ k ≤ (accN M k).length ∧ m + k = M.length ∧ ∀ i x, i < k → (accN M k)[i]? = some x → ((row M x.2).1 || !b) = false) ?_ M.length _ ⟨0, _, _, _, _, _, rfl, rfl, Nat.zero_le _, rfl, fun i x h => absurd h (Nat.not_lt_zero _)⟩
  rintro m s k' hk ⟨k, kds, y5, y6, y7, y8, rfl, e1, h1, h2, no⟩
  have hl := accN_len T k
  have hok := accN_ok T k
  have hew : (entW st.length (accN M k)).length = (accN M k).length := by unfold entW; rw [List.length_map, List.length_zipIdx]
  walk_at "z"
  by_cases lt : k < (accN M k).length
  · rw [if_pos (decide_eq_true (by omega))]
    have a1 : (accN M k)[k]? = some (accN M k)[k] := List.getElem?_eq_getElem lt
    have a2 := hok.2 _ (List.mem_of_getElem? a1)
    have a3 : accN M (k + 1) = stepA M (accN M k) (accN M k)[k] := by
      show (match (accN M k)[k]? with | some s => _ | none => _) = _
      rw [a1]
    have a4 := shortF_at (b := b) (by omega) a1 no
    generalize (accN M k)[k] = e at a1 a2 a3 a4
    have b1 := entW_at (L := st.length) a1
    have b2 := atI_map (f := rowD) (row_at a2)
    have b3 : rowD (row M e.2) = .tup [.bl (row M e.2).1, waysD (row M e.2).2] := rfl
    have hp3 := hp2 ((accN M k).map histC)
    rw [b3] at b2
    clear hp
    walk_at "z"
    have a5 : ((row M e.2).1 || !b) = true → A (.w (.loc (st.length + k))) (st ++ (accN M k).map histC) := fun z => by
      have := q ((accN M k).map histC)
      rw [a4 z] at this
      exact this k (by rw [List.getElem?_map, a1]; rfl)
    by_cases z : (row M e.2).1 = true
    · rw [if_pos z]
      exact a5 (by rw [z]; rfl)
    rw [if_neg z]
    by_cases z2 : (!b) = true
    · rw [if_pos z2]
      exact a5 (by rw [z2, Bool.or_true])
    rw [if_neg z2]
    rw [Bool.not_eq_true] at z z2
    have no2 : ((row M e.2).1 || !b) = false := by rw [z, z2]; rfl
    have hh := accN_hist M k e (List.mem_of_getElem? a1)
    have a6 : ∀ kds y5 y6 y7 y8, kds.map (·.1) = ((accN M (k + 1)).map (·.2)).map natD → k' ⟨[.v (.loc p), .v (.d (.bl b)), .own (.lsw (entW st.length (accN M (k + 1)))), .own (.dit false kds), .v (.d (.int ((k : Int) + 1))), y5, y6, y7, y8], st ++ (accN M (k + 1)).map histC⟩ := fun kds y5 y6 y7 y8 h => by
      obtain ⟨r, er⟩ := addAs_pre (h := e.1) (l := (row M e.2).2) (acc := accN M k)
      have er : accN M (k + 1) = accN M k ++ r := by rw [a3]; exact er
      refine hk (m - 1) _ (by omega) ⟨k + 1, kds, y5, y6, y7, y8, rfl, h, by rw [er, List.length_append]; omega, by omega, fun i x hi hx => ?_⟩
      by_cases hik : i < k
      · rw [er, List.getElem?_append_left (by omega)] at hx
        exact no i x hik hx
      · have : i = k := by omega
        subst this
        rw [er, List.getElem?_append_left lt, a1] at hx
        cases hx
        exact no2
    rw [a3] at a6
    unfold stepA at a6
    have hlt := T.lts e.2
    have hnd := T.nds e.2
    clear b1 b2 b3 hp3 hk a4 a5 q no no2 a3 z z2 hew
    show forGo _ _ _ (pairsD ((dP exD natD (row M e.2).2).map (·.1)) ((dP exD natD (row M e.2).2).map (·.2))) _
    generalize (row M e.2).2 = ws at *
    refine forGo_ty2 wayL (fun pre ys s => ∃ kds y7 y8, s = ⟨[.v (.loc p), .v (.d (.bl b)), .own (.lsw (entW st.length (pre.foldl (addA e.1) (accN M k)))), .own (.dit false kds), .v (.d (natD k)), .v (.loc (st.length + k)), .v (.d (natD e.2)), y7, y8], st ++ (pre.foldl (addA e.1) (accN M k)).map histC⟩ ∧ kds.map (·.1) = ((pre.foldl (addA e.1) (accN M k)).map (·.2)).map natD) ws (pairs_ways ws) ?_ ?_ _ ⟨_, _, _, rfl, e1⟩
    · rintro s ⟨kds2, y7, y8, rfl, e2⟩
      have := a6 kds2 (.v (.loc (st.length + k))) (.v (.d (natD e.2))) y7 y8 e2
      clear e2 a6 hp2
      walk_at "z"
    · rintro pre x ys s k2 e0 hk2 ⟨kds2, y7, y8, rfl, e2⟩
      have hx : x ∈ ws := by rw [e0]; simp
      have c3 := hlt x hx
      have hsub : ∀ w ∈ pre, w.2 < M.length := fun w hw => hlt w (by rw [e0]; simp [hw])
      have hacc := addAs_ok (h := e.1) hok.1 hok.2 hsub
      obtain ⟨r, er⟩ := addAs_pre (h := e.1) (l := pre) (acc := accN M k)
      have ak : (pre.foldl (addA e.1) (accN M k))[k]? = some e := by rw [er, List.getElem?_append_left lt]; exact a1
      have hk3 : ∀ kds y7 y8, kds.map (·.1) = ((addA e.1 (pre.foldl (addA e.1) (accN M k)) x).map (·.2)).map natD → k2 ⟨[.v (.loc p), .v (.d (.bl b)), .own (.lsw (entW st.length (addA e.1 (pre.foldl (addA e.1) (accN M k)) x))), .own (.dit false kds), .v (.d (natD k)), .v (.loc (st.length + k)), .v (.d (natD e.2)), y7, y8], st ++ (addA e.1 (pre.foldl (addA e.1) (accN M k)) x).map histC⟩ := fun kds y7 y8 h => by
        refine hk2 _ ⟨kds, y7, y8, ?_, ?_⟩
        · rw [List.foldl_append]; rfl
        · rw [List.foldl_append]; exact h
      clear hk2 er a6 e0 a1
      generalize pre.foldl (addA e.1) (accN M k) = acc at *
      have hal : acc.length ≤ M.length := by
        have := nodup_few hacc.1 (n := M.length) fun y hy => by
          obtain ⟨z, hz, rfl⟩ := List.mem_map.mp hy
          exact hacc.2 z hz
        rwa [List.length_map] at this
      have kl : kds2.length = acc.length := by have := congrArg List.length e2; simpa using this
      have c4 := dlook_some (n := x.2) e2
      have e6 := fun v h => putD_keys (n := x.2) (v := v) e2 h
      have e7 := e2
      have hS : (st ++ acc.map histC)[st.length + k]? = some (.lst (e.1.map exD)) := by
        rw [List.getElem?_append_right (Nat.le_add_right _ _), Nat.add_sub_cancel_left, List.getElem?_map, ak]; rfl
      have ew : wayL x = .tup [exD x.1, natD x.2] := rfl
      have hew : (entW st.length acc).length = acc.length := by unfold entW; rw [List.length_map, List.length_zipIdx]
      rw [ew]
      clear e1 e2 hlk hp2 ew
      revert e7
      walk_at "z"
      intro e7
      by_cases z : x.2 ∈ acc.map (·.2)
      · rw [decide_eq_true z]
        have ea : addA e.1 acc x = acc := if_pos z
        rw [ea] at hk3
        exact hk3 kds2 _ _ e7
      · rw [decide_eq_false z]
        have ea : addA e.1 acc x = acc ++ [(e.1 ++ [x.1], x.2)] := if_neg z
        rw [ea, entW_snoc, List.map_append] at hk3
        have e8 := e6 (D.bl true) z
        have hhl : (e.1.map exD).length + (0 + 1) ≤ sizeLine := by rw [List.length_map]; exact size1000 (by omega)
        refine ⟨size1000' (by omega), by decide, hhl, by decide, ?_⟩
        simp only [Option.map_some]
        refine ⟨size1000' (by omega), ?_⟩
        have hlen : (st ++ acc.map histC).length = st.length + acc.length := by rw [List.length_append, List.length_map]
        have := hk3 (putD kds2 (.num ((x.2 : Nat) : Int)) (natD x.2) (.bl true)) (.v (.d (exD x.1))) (.v (.d (natD x.2))) (by rw [e8]; rfl)
        rw [hlen, List.append_assoc]
        rw [List.map_append] at this
        have hc : [(e.1 ++ [x.1], x.2)].map histC = [Cell.lst (e.1.map exD ++ [exD x.1])] := by
          show [Cell.lst ((e.1 ++ [x.1]).map exD)] = _
          rw [List.map_append]; rfl
        rw [hc] at this
        exact this
  · rw [if_neg (fun z => lt (by have := of_decide_eq_true z; omega))]
    have hn := shortF_none (b := b) (by omega) (by omega) no
    have := q ((accN M k).map histC)
    rw [hn] at this
    exact this
theorem ok_shortest (T : Top K mg) : FnOk P w K mg base CX0 1 T.a_shortest T.fd_shortest ["machine", "whole"] (SpA 2 (sp_shortest T.C_Machine)) := by
  refine okKwo T.F_shortest sc_shortest (fun vs H Q E h => SpA.len h) (fun cdv A outer s H vs Q E hr h => ?_)
  refine ⟨_, (pss_cons (ps_set (i := 2) sc_shortest.nd rfl (Or.inl rfl) (pe_lst (pa_cons (pe_tup (pa_cons (pe_lst pa_nil) (pa_cons pe_int pa_nil))) pa_nil)))
 (pss_cons (ps_set (i := 3) sc_shortest.nd rfl (Or.inl rfl) (pe_xone_bl rfl))
 (pss_cons (ps_set (i := 4) sc_shortest.nd rfl (Or.inl rfl) pe_int)
 (pss_cons (ps_while PassesOwn.never (pt_cmpR op_lt (pv 4) (pe_callB (call_lenK K rfl) (by rfl) T.z_len (by decide +kernel) (pa_cons (pv 2) pa_nil)) (nomark _)) (pss_cons (ps_asg (pe_ix (ix_seqK K rfl) (pv 2) (pv 4) (fun _ _ => rfl)) (pg_tup (by rfl) (pgs_cons (pg_name (i := 5) sc_shortest.nd rfl (Or.inl rfl)) (pgs_cons (pg_name (i := 6) sc_shortest.nd rfl (Or.inl rfl)) pgs_nil))))
 (pss_cons (ps_if (PW.pt (pw_or (pt_val (pe_ix (ix_seqK K rfl) (pe_ix (ix_seqK K rfl) (pe_fld (pv 0) rfl) (pv 6) (fun _ _ => rfl)) pe_int (fun _ _ => rfl))) (pw_or1 (pt_not (pt_val (pv 1)))))) (pss_one (ps_ret (pv 5))) pss_nil)
 (pss_cons (ps_for PassesOwn.never rfl (pi_xitems (pe_ix (ix_seqK K rfl) (pe_ix (ix_seqK K rfl) (pe_fld (pv 0) rfl) (pv 6) (fun _ _ => rfl)) pe_int (fun _ _ => rfl))) (pg_tup (by rfl) (pgs_cons (pg_name (i := 7) sc_shortest.nd rfl (Or.inl rfl)) (pgs_cons (pg_name (i := 8) sc_shortest.nd rfl (Or.inl rfl)) pgs_nil))) (pss_one (ps_if (pt_cmp (pc_xnin rfl hr.units (pv 8) (pv 3))) (pss_cons (ps_xput rfl hr.units (pv 3) (pv 8) pe_bl rfl)
 (pss_one (ps_expr (bmK K rfl (pe_bm PySem.F.plainAttrs_list PySem.F.slot_list_append PySem.F.type_list_append mt_append (pv 2) (pa_cons (pe_tup (pa_cons (pe_op op_cat (pv 5) (pe_lst (pa_cons (pv 7) pa_nil))) (pa_cons (pv 8) pa_nil))) pa_nil)))))) pss_nil)))
 (pss_one (ps_aug (i := 4) sc_shortest.nd rfl (Or.inl rfl) pe_int ip_add))))))
 (pss_one (ps_ret pe_non)))))), fn_read (N := ["machine", "whole", "found", "seen", "at", "history", "state", "exchange", "more"]) (ab := (ab_shortest T.C_Machine)) (fun ea => ?_) red_shortest h⟩
  unfold ab_shortest
  exact (RS.seq (RS.asg (RN.lst (RA.cons (RE.tupW (RA.consN (RN.lst RA.nil) (RA.cons RE.int RA.nil))) RA.nil)))
 (RS.seq (RS.asg RN.xoneB)
 (RS.seq (RS.asg (RN.of RE.int))
 (RS.seq (RS.while (RT.test (RE.op oLt_ok RE.var (RE.lenW RE.var)))
 (RS.seq (RS.asgW (RE.ixW RE.var RE.var) rfl)
 (RS.seq (RS.ifs (RT.or (RT.b (RE.op oIx_ok (RE.op oIx_ok (RE.fld T.c_Machine T.n_Machine_states RE.var) RE.var) RE.int)) (RT.not (RT.b RE.var)))
 (RS.ret RN.move)
 RS.next)
 (RS.seq (RS.for (RI.xitems (RE.op oIx_ok (RE.op oIx_ok (RE.fld T.c_Machine T.n_Machine_states RE.var) RE.var) RE.int)) (RG.tp (RGs.cons RG.nm (RGs.cons RG.nm RGs.nil)) rfl)
 (RS.ifs (RT.b (RE.xin RE.var RE.var))
 (RS.seq (RS.xput RE.var RE.var RE.bl)
 (RS.drop (RE.bm mAppend_ok RE.var (RA.cons (RE.tupW (RA.consN (RN.op oCat_ok RE.var (RE.fz (RN.lst (RA.cons RE.var RA.nil)))) (RA.cons RE.var RA.nil))) RA.nil))))
 RS.next))
 (RS.aug RE.int)))))
 (RS.ret (RN.of RE.non))))))
end
end K13

set_option Elab.async false
set_option linter.all false
set_option maxRecDepth 100000
set_option maxHeartbeats 400000
set_option pp.deepTerms false
set_option pp.maxSteps 400
namespace K13
open PySem PySem.Spec PyProof.Rows L2 Ly Zi Zs Lc K06
open PySem.W (minD AlikeAll)
local macro_rules | `(tactic| walk_at "z") => `(tactic| simp (config := { dsimp := false }) only [aSeq, aIf, aT, aYes, aAnd, aOr, aNot, aOp, aOpL, aUn, aVar, aC, aRaw, aMove, pk, q_peek_w, q_peek_s, q_peekW_d, q_peekW_loc, q_cellD_lst, q_cellD_dic, ↓q_toW_w, q_toW_w, ↓q_toW_s, q_toW_s, ↓q_toL_w, q_toL_w, ↓q_toL_s, q_toL_s, ↓q_nToW_w, q_nToW_w, ↓q_nToW_lst, q_nToW_lst, ↓q_nToW_dic, q_nToW_dic, q_put_w, q_put_n, q_getC_loc, q_getC_s, q_putC_loc, q_putC_s, aFz, aN, aAsg, aAsgT, q_bind_nm, q_bind_tp, q_binds_nil, q_binds_cons, aRet, aRetN, aDrop, aDropN, aNext, aBreak, aCont, aAug, aSetIx, aDPut, aCall, aCons, aConsL, aNil, aLst, aTup, lstC, wsD, rCons, rNil, pks, aCB, aCBL, aBM, aBM0, isL, mAppend, mPop, mPopAt,
  aSlL, aSlT, aRevL, aNo, aSome, aAndV, aOrV, aNotV, aIfE, aChain, aDIn, aDGet, aDNew, withDic, Zi.keyOf, cut2, part32, eqD_str, inD2, all_str2, aFor, aForE, comesBack, aLc, aSortSet, aPutS, aCl, aIL, aIT, aIR1, aIR2, aIE, aIZ, aIS, wipeE, backE,
  q_cellD_dit, q_nToW_dit, q_key_int, aXGet, aXIn, aXGet1, aXNew, aXPut, aXSetd, withX, bXLen, aIXK, aIXI, aXDict, aXOne, aXDc, aXEmit, aNLen, aNEmit, aFld, aSetF, aMake, aAugS, bAll, bAny, bSum, bInt, aTupOf, aLenSet, oRep, aCallD, aCallN, aTupW, aIxW, aAsgW, eqI2, eqI3, aLenW, aDead, bLenS, aConsN, nToL, w0s, bindWs, W0.w, oAdd, oSub, oMul, oMulW, oMod, oDiv, oDivW, oPow, oLt, oLe, oGt, oGe, oI, oIc, oEq, oNe, oIn, oIx, oCat, oAddS, oInS, oIs, oIsNot, oIsB, oIsNB, Zi.isNon, oNeg, oBits, bLen, bList, bMax2, bMin2, bMin, aIsi, aSetSl, tyN, kit_NoneType_bool, kit_NoneType_int, kit_NoneType_str, kit_NoneType_list, kit_NoneType_tuple, kit_NoneType_dict, kit_bool_bool, kit_bool_int, kit_bool_str, kit_bool_list, kit_bool_tuple, kit_bool_dict, kit_int_bool, kit_int_int, kit_int_str, kit_int_list, kit_int_tuple, kit_int_dict, kit_str_bool, kit_str_int, kit_str_str, kit_str_list, kit_str_tuple, kit_str_dict, kit_list_bool, kit_list_int, kit_list_str, kit_list_list, kit_list_tuple, kit_list_dict, kit_tuple_bool, kit_tuple_int, kit_tuple_str, kit_tuple_list, kit_tuple_tuple, kit_tuple_dict, kit_dict_bool, kit_dict_int, kit_dict_str, kit_dict_list, kit_dict_tuple, kit_dict_dict, 
  List.getElem?_cons_zero, List.getElem?_cons_succ, List.set_cons_zero, List.set_cons_succ, List.length_cons, List.length_nil, List.set_set, List.getElem?_set_self, Nat.zero_le, okD_nil, okD_str, okD_int, okD_bl, okD_non, ea0, at0, at1, at2, at3, ix0, ix1, ix2, true_and, and_true, Bool.false_eq_true, Bool.not_true, Bool.not_false, ↓reduceIte, *])
local macro_rules | `(tactic| walk_at "y") => `(tactic| simp only [aSeq, aIf, aT, aYes, aAnd, aOr, aNot, aOp, aOpL, aUn, aVar, aC, aRaw, aMove, pk, q_peek_w, q_peek_s, q_peekW_d, q_peekW_loc, q_cellD_lst, q_cellD_dic, ↓q_toW_w, q_toW_w, ↓q_toW_s, q_toW_s, ↓q_toL_w, q_toL_w, ↓q_toL_s, q_toL_s, ↓q_nToW_w, q_nToW_w, ↓q_nToW_lst, q_nToW_lst, ↓q_nToW_dic, q_nToW_dic, q_put_w, q_put_n, q_getC_loc, q_getC_s, q_putC_loc, q_putC_s, aFz, aN, aAsg, aAsgT, q_bind_nm, q_bind_tp, q_binds_nil, q_binds_cons, aRet, aRetN, aDrop, aDropN, aNext, aBreak, aCont, aAug, aSetIx, aDPut, aCall, aCons, aConsL, aNil, aLst, aTup, lstC, wsD, rCons, rNil, pks, aCB, aCBL, aBM, aBM0, isL, mAppend, mPop, mPopAt,
  aSlL, aSlT, aRevL, aNo, aSome, aAndV, aOrV, aNotV, aIfE, aChain, aDIn, aDGet, aDNew, withDic, Zi.keyOf, cut2, part32, eqD_str, inD2, all_str2, aFor, aForE, comesBack, aLc, aSortSet, aPutS, aCl, aIL, aIT, aIR1, aIR2, aIE, aIZ, aIS, wipeE, backE,
  q_cellD_dit, q_nToW_dit, q_key_int, aXGet, aXIn, aXGet1, aXNew, aXPut, aXSetd, withX, bXLen, aIXK, aIXI, aXDict, aXOne, aXDc, aXEmit, aNLen, aNEmit, aFld, aSetF, aMake, aAugS, bAll, bAny, bSum, bInt, aTupOf, aLenSet, oRep, aCallD, aCallN, aTupW, aIxW, aAsgW, eqI2, eqI3, aLenW, aDead, bLenS, aConsN, nToL, w0s, bindWs, W0.w, oAdd, oSub, oMul, oMulW, oMod, oDiv, oDivW, oPow, oLt, oLe, oGt, oGe, oI, oIc, oEq, oNe, oIn, oIx, oCat, oAddS, oInS, oIs, oIsNot, oIsB, oIsNB, Zi.isNon, oNeg, oBits, bLen, bList, bMax2, bMin2, bMin, aIsi, aSetSl, tyN, kit_NoneType_bool, kit_NoneType_int, kit_NoneType_str, kit_NoneType_list, kit_NoneType_tuple, kit_NoneType_dict, kit_bool_bool, kit_bool_int, kit_bool_str, kit_bool_list, kit_bool_tuple, kit_bool_dict, kit_int_bool, kit_int_int, kit_int_str, kit_int_list, kit_int_tuple, kit_int_dict, kit_str_bool, kit_str_int, kit_str_str, kit_str_list, kit_str_tuple, kit_str_dict, kit_list_bool, kit_list_int, kit_list_str, kit_list_list, kit_list_tuple, kit_list_dict, kit_tuple_bool, kit_tuple_int, kit_tuple_str, kit_tuple_list, kit_tuple_tuple, kit_tuple_dict, kit_dict_bool, kit_dict_int, kit_dict_str, kit_dict_list, kit_dict_tuple, kit_dict_dict, 
  List.getElem?_cons_zero, List.getElem?_cons_succ, List.set_cons_zero, List.set_cons_succ, List.length_cons, List.length_nil, List.set_set, List.getElem?_set_self, Nat.zero_le, okD_nil, okD_str, okD_int, okD_bl, okD_non, ea0, at0, at1, at2, at3, ix0, ix1, ix2, true_and, and_true, Bool.false_eq_true, Bool.not_true, Bool.not_false, ↓reduceIte, *])

section
variable {P : Program} [Zi.Wd] {K : PySem.W.Frag} {mg : Str → Option Value} {base : Heap}

def NAMES : List Str := ["a", "ab", "b", "ba", "c", "zoe", "abcdefgh", "m", "mm", "z"]
theorem names_c : lstC [W.d (.str "a"), W.d (.str "ab"), W.d (.str "b"), W.d (.str "ba"), W.d (.str "c"), W.d (.str "zoe"), W.d (.str "abcdefgh"), W.d (.str "m"), W.d (.str "mm"), W.d (.str "z")] = .lst (NAMES.map D.str) := rfl
theorem okE_str (s : Str) : okE (.str s) := ⟨rfl, Nat.zero_le _⟩
theorem okE_ex (e : Exch) : okE (exD e) := ⟨rfl, by show (1 : Nat) ≤ 58; decide⟩
theorem cut_to {xs : List D} {k : Nat} : cutZ xs none (some (k : Int)) = xs.take k := by
  unfold cutZ
  rw [HT.sIx_none, HT.sIx_nat, List.drop_zero, Nat.sub_zero]
  by_cases h : k ≤ xs.length
  · rw [Nat.min_eq_left h]
  · rw [Nat.min_eq_right (by omega), List.take_length, List.take_of_length_le (by omega)]
theorem perm_strs {l : List D} {ss : List Str} (h : l.Perm (ss.map D.str)) : ∃ us : List Str, l = us.map D.str ∧ us.Perm ss := by
  obtain ⟨l', h1, h2⟩ := Ly.perm_map_ex D.str (fun | .str s => s | _ => "") (fun _ => rfl) h
  exact ⟨l', h1, h2⟩
theorem perm_ways {l : List D} {ws : List Way} (h : l.Perm (ws.map wayL)) : ∃ us : List Way, l = us.map wayL ∧ us.Perm ws := by
  obtain ⟨l', h1, h2⟩ := Ly.perm_map_ex wayL (fun | .tup [.tup [.str a, .str b, .str c], .int n] => ((a, b, c), n.toNat) | _ => (("", "", ""), 0)) (fun w => by
    show ((w.1.1, w.1.2.1, w.1.2.2), ((w.2 : Int)).toNat) = w
    rw [Int.toNat_natCast]) h
  exact ⟨l', h1, h2⟩
def nameB (s : Str) : Bool := decide (1 ≤ s.length) && decide (s.length ≤ 8) && s.cps.toList.all fun c => signOk ⟨#[c]⟩
theorem nameB_ok {s : Str} (h : nameB s = true) : nameOk s := by
  unfold nameB at h
  rw [Bool.and_eq_true, Bool.and_eq_true] at h
  exact ⟨of_decide_eq_true h.1.1, of_decide_eq_true h.1.2, List.all_eq_true.mp h.2⟩
theorem names_ok : ∀ s ∈ NAMES, nameOk s := fun s hs => nameB_ok (List.all_eq_true.mp (show NAMES.all nameB = true by decide +kernel) s hs)
theorem names_nd : NAMES.Nodup := by decide +kernel
def ab_law_whole_number : XA → ASt := fun ea =>
 (aRet (aN (aAndV (aIsi (aVar 0) "int") (aNotV (aIsi (aVar 0) "bool")))))
theorem go_law_whole_number {w0 : W} {st : List Cell} {A : Zi.N → List Cell → Prop} {Ea : XA} (h : ab_law_whole_number Ea ⟨fun s => A (.w (.d .non)) s.st, A, fun _ => False, fun _ => False⟩ ⟨[.v w0], st⟩) : aFn 1 ab_law_whole_number [w0] st A Ea := h
def sp_law_whole_number : ASp := fun ws st A _ => ∃ i : Int, ws = [.d (.int i)] ∧ A (.w (.d (.bl true))) st
theorem red_law_whole_number (ws st A Ea) (_ : ws.length = 1) (h : sp_law_whole_number ws st A Ea) : aFn 1 ab_law_whole_number ws st A Ea := by
  obtain ⟨i, rfl, q⟩ := h
  refine go_law_whole_number ?_
  unfold ab_law_whole_number
  walk_at "z"
theorem ok_law_whole_number (T : Top K mg) : FnOk P w K mg base CX0 1 T.a_law_whole_number T.fd_law_whole_number ["_law_found"] (SpA 1 sp_law_whole_number) := by
  refine T.F_law_whole_number.ok sc_law_whole_number (fun vs H Q E h => SpA.len h) (fun cdv A outer s H vs Q E hr h => ?_)
  refine ⟨_, (pss_one (ps_ret (pe_and (pe_callB (call_isiK' K rfl) (by rfl) T.z_isinstance (by decide +kernel) (pa_cons (pv 0) (pa_cons (pe_bltn (v := .ty "int") (by rfl) T.z_int boot_int rfl) pa_nil))) (pe_one (pe_not (pe_callB (call_isiK' K rfl) (by rfl) T.z_isinstance (by decide +kernel) (pa_cons (pv 0) (pa_cons (pe_bltn (v := .ty "bool") (by rfl) T.z_bool boot_bool rfl) pa_nil)))))))), fn_read (N := ["_law_found"]) (ab := ab_law_whole_number) (fun ea => ?_) red_law_whole_number h⟩
  unfold ab_law_whole_number
  exact (RS.ret (RN.of (RE.andV (RE.isi (by decide +kernel) RE.var) (RE.notV (RE.isi (by decide +kernel) RE.var)))))
def ab_law_names : XA → ASt := fun ea =>
 (aSeq (aAsg 2 (aLst (aCons (aC (.str "a")) (aCons (aC (.str "ab")) (aCons (aC (.str "b")) (aCons (aC (.str "ba")) (aCons (aC (.str "c")) (aCons (aC (.str "zoe")) (aCons (aC (.str "abcdefgh")) (aCons (aC (.str "m")) (aCons (aC (.str "mm")) (aCons (aC (.str "z")) aNil))))))))))))
 (aRet (aSlL (aFz (aCall ea0 2 sp_law_order (aConsL (aVar 0) (aCons (aVar 2) aNil)))) aNo (aSome (aVar 1)))))
theorem go_law_names {w0 w1 : W} {st : List Cell} {A : Zi.N → List Cell → Prop} {Ea : XA} (h : ab_law_names Ea ⟨fun s => A (.w (.d .non)) s.st, A, fun _ => False, fun _ => False⟩ ⟨[.v w0, .v w1, .no], st⟩) : aFn 3 ab_law_names [w0, w1] st A Ea := h
def sp_law_names : ASp := fun ws st A _ => ∃ (p m : Nat) (a b c : Int), ws = [.loc p, .d (.int (m : Int))] ∧ m ≤ 10 ∧ st[p]? = some (Pur a b c) ∧ PurOk a b c ∧ c + 20 ≤ 1000000 ∧
  ∀ (L : List Str) (a' b' c' : Int), L.length = m → L.Nodup → (∀ s ∈ L, nameOk s) → PurOk a' b' c' → c ≤ c' → c' ≤ c + 20 → A (.new (.lst (L.map D.str))) (st.set p (Pur a' b' c'))
theorem red_law_names (ws st A Ea) (_ : ws.length = 2) (h : sp_law_names ws st A Ea) : aFn 3 ab_law_names ws st A Ea := by
  obtain ⟨p, m, a, b, c, rfl, hm, hp, hpo, hc, q⟩ := h
  refine go_law_names ?_
  unfold ab_law_names
  refine ⟨(by decide : (10 : Nat) ≤ sizeLine), ?_⟩
  rw [names_c]
  have hN0 := names_nd
  have hN1 := names_ok
  have hN2 : NAMES.length = 10 := rfl
  generalize NAMES = nms at *
  walk_at "y"
  refine ⟨p, nms.map D.str, a, b, c, rfl, fun d hd => ?_, by rw [List.length_map]; omega, hp, hpo, by rw [List.length_map]; omega, fun ds' a' b' c' pm po h1 h2 => ?_⟩
  · obtain ⟨s, _, rfl⟩ := List.mem_map.mp hd
    exact okE_str s
  · obtain ⟨us, rfl, pu⟩ := perm_strs pm
    rw [List.length_map] at h2
    walk_at "y"
    rw [cut_to, ← List.map_take]
    have hl : us.length = 10 := pu.length_eq.trans hN2
    exact q _ a' b' c' (by rw [List.length_take, hl]; omega) ((pu.nodup_iff.mpr hN0).sublist (List.take_sublist _ _)) (fun s hs => hN1 s (pu.mem_iff.mp (List.mem_of_mem_take hs))) po h1 (by omega)
theorem ok_law_names (T : Top K mg) : FnOk P w K mg base CX0 4 T.a_law_names T.fd_law_names ["_law_purse_here", "_law_many"] (SpA 2 sp_law_names) := by
  refine T.F_law_names.ok sc_law_names (fun vs H Q E h => SpA.len h) (fun cdv A outer s H vs Q E hr h => ?_)
  refine ⟨_, (pss_cons (ps_set (i := 2) sc_law_names.nd rfl (Or.inl rfl) (pe_lst (pa_cons pe_str (pa_cons pe_str (pa_cons pe_str (pa_cons pe_str (pa_cons pe_str (pa_cons pe_str (pa_cons pe_str (pa_cons pe_str (pa_cons pe_str (pa_cons pe_str pa_nil))))))))))))
 (pss_one (ps_ret (pe_slice (sl_listK K rfl) (pe_call (ok_law_order T) (hr.mono (by decide)) (by rfl) T.g_law_order T.F_law_order.kp T.b_law_order .nil pass0 (pa_cons (pv 0) (pa_cons (pv 2) pa_nil))) po_none (po_some (pv 1)))))), fn_read (N := ["_law_purse_here", "_law_many", "_law_some"]) (ab := ab_law_names) (fun ea => ?_) red_law_names h⟩
  unfold ab_law_names
  exact (RS.seq (RS.asg (RN.lst (RA.cons RE.str (RA.cons RE.str (RA.cons RE.str (RA.cons RE.str (RA.cons RE.str (RA.cons RE.str (RA.cons RE.str (RA.cons RE.str (RA.cons RE.str (RA.cons RE.str RA.nil))))))))))))
 (RS.ret (RN.slL (RE.fz (RN.call0 (asp := sp_law_order) (RA.consL RE.var (RA.cons RE.var RA.nil)))) RO.none (RO.some RE.var))))
def ab_law_table : XA → ASt := fun ea =>
 (aRet (aLc (aIL (aVar 0)) (.tp [(.nm 1), (.nm 2)]) aYes (aTup (aCons (aVar 1) (aCons (aFz (aXDict true (rCons (aVar 2) rNil))) aNil))) [1, 2]))
theorem go_law_table {w0 : W} {st : List Cell} {A : Zi.N → List Cell → Prop} {Ea : XA} (h : ab_law_table Ea ⟨fun s => A (.w (.d .non)) s.st, A, fun _ => False, fun _ => False⟩ ⟨[.v w0, .no, .no], st⟩) : aFn 3 ab_law_table [w0] st A Ea := h
def sp_law_table : ASp := fun ws st A _ => ∃ t : Tab, ws = [.d (tabL t)] ∧ TabOk t ∧ A (.new (.lst (t.map rowD))) st
theorem red_law_table (ws st A Ea) (_ : ws.length = 1) (h : sp_law_table ws st A Ea) : aFn 3 ab_law_table ws st A Ea := by
  obtain ⟨t, rfl, R, q⟩ := h
  refine go_law_table ?_
  unfold ab_law_table tabL
  have few := R.few
  walk_at "z"
  refine lcGo_ty rowL (fun _ => true) rowD t (by omega) ?_ ?_
  · refine fun r hr => ⟨_, rfl, rfl, fun A hA => hA, fun _ A hA => ?_⟩
    have e1 := ents_ways r.2
    have e2 := dict_ways (R.nd r hr)
    have e3 : rowD r = .tup [.bl r.1, .dit true ((dP exD natD r.2).map (·.1)) ((dP exD natD r.2).map (·.2))] := rfl
    rw [e3] at hA
    clear q
    walk_at "z"
    exact ⟨by decide, hA⟩
  · rw [List.filter_eq_self.mpr fun _ _ => rfl]
    walk_at "z"
theorem ok_law_table (T : Top K mg) : FnOk P w K mg base CX0 1 T.a_law_table T.fd_law_table ["_law_rows"] (SpA 1 sp_law_table) := by
  refine T.F_law_table.ok sc_law_table (fun vs H Q E h => SpA.len h) (fun cdv A outer s H vs Q E hr h => ?_)
  refine ⟨_, (pss_one (ps_ret (pe_lc (own := [("_law_ends", 1), ("_law_ways", 2)]) (g := gTup _ 2 (gCons (gName 1) (gCons (gName 2) gNil))) (tt := tYes) rfl sc_law_table.nd (pi_listK K rfl (pv 0)) (blkOk_by (own := [("_law_ends", 1), ("_law_ways", 2)]) (N := ["_law_rows", "_law_ends", "_law_ways"]) (sc := defScope s_law_table) (by decide +kernel)) (fun _ _ _ _ _ => (pg_tup (by rfl) (pgs_cons (pg_name (i := 1) sc_law_table.nd rfl (Or.inl rfl)) (pgs_cons (pg_name (i := 2) sc_law_table.nd rfl (Or.inl rfl)) pgs_nil)))) (fun _ _ _ _ _ => pts_nil) (fun _ _ _ _ _ => (pe_tup (pa_cons (pv 1) (pa_cons (pe_callTy (cr_xdictK K rfl rfl rfl hr.units) (by rfl) T.z_dict (by decide +kernel) (pa_cons (pv 2) pa_nil)) pa_nil))))))), fn_read (N := ["_law_rows", "_law_ends", "_law_ways"]) (ab := ab_law_table) (fun ea => ?_) red_law_table h⟩
  unfold ab_law_table
  exact (RS.ret (RN.lc (RI.list RE.var) (RG.tp (RGs.cons RG.nm (RGs.cons RG.nm RGs.nil)) rfl) RT.yes (RE.tup (RA.cons RE.var (RA.cons (RE.fz (RN.xdict (RR.cons RE.var RR.nil))) RA.nil))) (by decide)))
def ab_law_exchanges : XA → ASt := fun ea =>
 (aSeq (aAsg 2 (aLst aNil))
 (aSeq (aFor (aIR1 (rCons (aOp oAdd (aC (.int 1)) (aFz (aCall ea0 2 sp_law_draw (aConsL (aVar 0) (aCons (aC (.int 5)) aNil))))) rNil)) (.nm 3)
 (aSeq (aAsg 4 (aSlL (aFz (aCall ea0 2 sp_law_order (aConsL (aVar 0) (aCons (aVar 1) aNil)))) aNo (aSome (aC (.int 2)))))
 (aSeq (aAsg 5 (aN (aTup (aCons (aOp oIx (aVar 4) (aC (.int 0))) (aCons (aOp oIx (aVar 4) (aC (.int 1))) (aCons (aOp oIx (aFz (aLst (aCons (aC (.str "w")) (aCons (aC (.str "v")) (aCons (aC (.str "wv")) (aCons (aC (.str "a")) aNil)))))) (aFz (aCall ea0 2 sp_law_draw (aConsL (aVar 0) (aCons (aC (.int 4)) aNil))))) aNil))))))
 (aIf (aT (aOp (oIn true) (aVar 5) (aVar 2)))
 (aDrop (aBM mAppend (aVar 2) (aCons (aVar 5) aNil)))
 aNext))))
 (aRet (aMove 2))))
theorem go_law_exchanges {w0 w1 : W} {st : List Cell} {A : Zi.N → List Cell → Prop} {Ea : XA} (h : ab_law_exchanges Ea ⟨fun s => A (.w (.d .non)) s.st, A, fun _ => False, fun _ => False⟩ ⟨[.v w0, .v w1, .no, .no, .no, .no], st⟩) : aFn 6 ab_law_exchanges [w0, w1] st A Ea := h
def sp_law_exchanges : ASp := fun ws st A _ => ∃ (p : Nat) (ss : List Str) (a b c : Int), ws = [.loc p, .d (.lst (ss.map D.str))] ∧ 2 ≤ ss.length ∧ ss.length ≤ 10 ∧ ss.Nodup ∧ (∀ s ∈ ss, nameOk s) ∧ st[p]? = some (Pur a b c) ∧ PurOk a b c ∧ c + 112 ≤ 1000000 ∧
  ∀ (es : List Exch) (a' b' c' : Int), es.Nodup → (∀ e ∈ es, exOk e) → es.length ≤ 5 → PurOk a' b' c' → c ≤ c' → c' ≤ c + 112 → A (.new (.lst (es.map exD))) (st.set p (Pur a' b' c'))
theorem inD_ex (e : Exch) (es : List Exch) : inD (exD e) (es.map exD) = decide (e ∈ es) := by
  unfold inD
  rw [List.any_map, Bool.eq_iff_iff, List.any_eq_true, decide_eq_true_eq]
  constructor
  · rintro ⟨x, hx, h⟩
    have h : eqD (exD x) (exD e) = true := h
    have : decide (x = e) = true := by rw [← pE_eqv]; exact h
    rw [← of_decide_eq_true this]; exact hx
  · intro h
    refine ⟨e, h, ?_⟩
    show eqD (exD e) (exD e) = true
    have : PyData.eqv (pE e) (pE e) = true := by rw [pE_eqv]; simp
    exact this
theorem red_law_exchanges (ws st A Ea) (_ : ws.length = 2) (h : sp_law_exchanges ws st A Ea) : aFn 6 ab_law_exchanges ws st A Ea := by
  obtain ⟨p, ss, a, b, c, rfl, l2, l10, snd, sok, hp, hpo, hc, q⟩ := h
  have hpl : p < st.length := (List.getElem?_eq_some_iff.mp hp).1
  refine go_law_exchanges ?_
  unfold ab_law_exchanges
  walk_at "y"
  refine ⟨p, 5, a, b, c, rfl, by decide, by decide, hp, hpo, by omega, fun r a1 b1 c1 r0 r1 po1 h1 h2 => ?_⟩
  walk_at "y"
  refine ⟨⟨by omega, by omega⟩, ?_⟩
  refine forGo_ind (fun ds s => ∃ es y3 y4 y5 a' b' c', s = ⟨[.v (.loc p), .v (.d (.lst (ss.map D.str))), .own (.lst (es.map exD)), y3, y4, y5], st.set p (Pur a' b' c')⟩ ∧ es.Nodup ∧ (∀ e ∈ es, exOk e) ∧ es.length + ds.length ≤ 5 ∧ PurOk a' b' c' ∧ c ≤ c' ∧ c' + 22 * ds.length ≤ c + 112) ?_ ?_ _ _ ⟨[], _, _, _, a1, b1, c1, rfl, List.nodup_nil, fun e he => (nomatch he), by rw [upto_length]; simp only [List.length_nil]; omega, po1, h1, by rw [upto_length]; omega⟩
  · rintro s ⟨es, y3, y4, y5, a', b', c', rfl, nd, ok, hl, po, h3, h4⟩
    walk_at "y"
    exact q es a' b' c' nd ok (by simpa using hl) po h3 (by simpa using h4)
  · rintro d ds s k hk ⟨es, y3, y4, y5, a', b', c', rfl, nd, ok, hl, po, h3, h4⟩
    rw [List.length_cons] at hl h4
    have hk2 : ∀ (es : List Exch) y3 y4 y5 a' b' c', es.Nodup → (∀ e ∈ es, exOk e) → es.length + ds.length ≤ 5 → PurOk a' b' c' → c ≤ c' → c' + 22 * ds.length ≤ c + 112 → k ⟨[.v (.loc p), .v (.d (.lst (ss.map D.str))), .own (.lst (es.map exD)), y3, y4, y5], st.set p (Pur a' b' c')⟩ := fun es y3 y4 y5 a' b' c' h1 h2 h3 h4 h5 h6 => hk _ ⟨es, y3, y4, y5, a', b', c', rfl, h1, h2, h3, h4, h5, h6⟩
    clear hk q
    simp only [q_bind_nm, List.set_cons_succ, List.set_cons_zero]
    walk_at "y"
    refine ⟨p, ss.map D.str, a', b', c', rfl, fun d hd => ?_, by rw [List.length_map]; omega, List.getElem?_set_self hpl, po, by rw [List.length_map]; omega, fun ds' a2 b2 c2 pm po2 h5 h6 => ?_⟩
    · obtain ⟨s, _, rfl⟩ := List.mem_map.mp hd
      exact okE_str s
    obtain ⟨us, rfl, pu⟩ := perm_strs pm
    rw [List.length_map] at h6
    have hul : us.length = ss.length := pu.length_eq
    obtain ⟨x, y, rest, rfl⟩ : ∃ x y rest, us = x :: y :: rest := by
      match us, hul with
      | [], hl => simp only [List.length_nil] at hl; omega
      | [_], hl => simp only [List.length_cons, List.length_nil] at hl; omega
      | x :: y :: rest, _ => exact ⟨x, y, rest, rfl⟩
    have mx : nameOk x := sok x (pu.mem_iff.mp (by simp))
    have my : nameOk y := sok y (pu.mem_iff.mp (by simp))
    have xy : x ≠ y := by
      have := pu.nodup_iff.mpr snd
      rw [List.nodup_cons] at this
      exact fun e => this.1 (by rw [e]; simp)
    have hfin : ∀ (z : Str) (y3 : Sl) (a' b' c' : Int), nameOk z → PurOk a' b' c' → c2 ≤ c' → c' ≤ c2 + 2 →
        (if (!inD (exD (x, y, z)) (es.map exD)) = true then (es.map exD).length < sizeLine ∧ k ⟨[.v (.loc p), .v (.d (.lst (ss.map D.str))), .own (.lst (es.map exD ++ [exD (x, y, z)])), .v (.d d), y3, .v (.d (exD (x, y, z)))], st.set p (Pur a' b' c')⟩ else k ⟨[.v (.loc p), .v (.d (.lst (ss.map D.str))), .own (.lst (es.map exD)), .v (.d d), y3, .v (.d (exD (x, y, z)))], st.set p (Pur a' b' c')⟩) := fun z y3 a' b' c' hz po' h7 h8 => by
      rw [inD_ex]
      by_cases hm : (x, y, z) ∈ es
      · rw [decide_eq_true hm]
        exact hk2 es _ _ _ a' b' c' nd ok (by omega) po' (by omega) (by omega)
      · rw [decide_eq_false hm]
        refine ⟨by rw [List.length_map]; exact size1000' (by omega), ?_⟩
        have := hk2 (es ++ [(x, y, z)]) (.v (.d d)) y3 (.v (.d (exD (x, y, z)))) a' b' c' (List.nodup_append.mpr ⟨nd, by simp, fun a ha b hb => by rw [List.mem_singleton.mp hb]; exact fun e => hm (e ▸ ha)⟩) (fun e he => by
          rcases List.mem_append.mp he with he | he
          · exact ok e he
          · rw [List.mem_singleton.mp he]; exact ⟨mx, my, hz, xy⟩) (by rw [List.length_append, List.length_singleton]; omega) po' (by omega) (by omega)
        rw [List.map_append] at this
        exact this
    clear hk2
    simp only [List.map_cons]
    have okA : ∀ z : Str, okD (.tup [.str x, .str y, .str z]) = true := fun z => rfl
    have okB : (es.map exD).all okD = true := List.all_eq_true.mpr fun d hd => by
      obtain ⟨e, _, rfl⟩ := List.mem_map.mp hd
      rfl
    walk_at "y"
    refine ⟨by decide, p, 4, a2, b2, c2, rfl, by decide, by decide, List.getElem?_set_self hpl, po2, by omega, fun r2 a3 b3 c3 q0 q1 po3 h7 h8 => ?_⟩
    have hr : r2 = 0 ∨ r2 = 1 ∨ r2 = 2 ∨ r2 = 3 := by omega
    have nW : nameOk "w" := nameB_ok (by decide +kernel)
    have nV : nameOk "v" := nameB_ok (by decide +kernel)
    have nWV : nameOk "wv" := nameB_ok (by decide +kernel)
    have nA : nameOk "a" := nameB_ok (by decide +kernel)
    rcases hr with rfl | rfl | rfl | rfl
    · have h9 := hfin "w" (.own (.lst [.str x, .str y])) a3 b3 c3 nW po3 h7 h8
      clear hfin
      walk_at "y"
      exact ⟨by decide, h9⟩
    · have h9 := hfin "v" (.own (.lst [.str x, .str y])) a3 b3 c3 nV po3 h7 h8
      clear hfin
      walk_at "y"
      exact ⟨by decide, h9⟩
    · have h9 := hfin "wv" (.own (.lst [.str x, .str y])) a3 b3 c3 nWV po3 h7 h8
      clear hfin
      walk_at "y"
      exact ⟨by decide, h9⟩
    · have h9 := hfin "a" (.own (.lst [.str x, .str y])) a3 b3 c3 nA po3 h7 h8
      clear hfin
      walk_at "y"
      exact ⟨by decide, h9⟩
theorem ok_law_exchanges (T : Top K mg) : FnOk P w K mg base CX0 4 T.a_law_exchanges T.fd_law_exchanges ["_law_purse_here", "_law_people"] (SpA 2 sp_law_exchanges) := by
  refine T.F_law_exchanges.ok sc_law_exchanges (fun vs H Q E h => SpA.len h) (fun cdv A outer s H vs Q E hr h => ?_)
  refine ⟨_, (pss_cons (ps_set (i := 2) sc_law_exchanges.nd rfl (Or.inl rfl) (pe_lst pa_nil))
 (pss_cons (ps_for PassesOwn.never rfl (pi_range1 rfl T.z_range (pa_cons (pe_op op_add pe_int (pe_call (ok_law_draw T) (hr.mono (by decide)) (by rfl) T.g_law_draw T.F_law_draw.kp T.b_law_draw .nil pass0 (pa_cons (pv 0) (pa_cons pe_int pa_nil)))) pa_nil)) (pg_name (i := 3) sc_law_exchanges.nd rfl (Or.inl rfl)) (pss_cons (ps_set (i := 4) sc_law_exchanges.nd rfl (Or.inl rfl) (pe_slice (sl_listK K rfl) (pe_call (ok_law_order T) (hr.mono (by decide)) (by rfl) T.g_law_order T.F_law_order.kp T.b_law_order .nil pass0 (pa_cons (pv 0) (pa_cons (pv 1) pa_nil))) po_none (po_some pe_int)))
 (pss_cons (ps_set (i := 5) sc_law_exchanges.nd rfl (Or.inl rfl) (pe_tup (pa_cons (pe_ix (ix_seqK K rfl) (pv 4) pe_int (fun _ _ => rfl)) (pa_cons (pe_ix (ix_seqK K rfl) (pv 4) pe_int (fun _ _ => rfl)) (pa_cons (pe_ix (ix_seqK K rfl) (pe_lst (pa_cons pe_str (pa_cons pe_str (pa_cons pe_str (pa_cons pe_str pa_nil))))) (pe_call (ok_law_draw T) (hr.mono (by decide)) (by rfl) T.g_law_draw T.F_law_draw.kp T.b_law_draw .nil pass0 (pa_cons (pv 0) (pa_cons pe_int pa_nil))) (fun _ _ => rfl)) pa_nil)))))
 (pss_one (ps_if (pt_cmpR (op_niQ hr.units) (pv 5) (pv 2) (by rfl)) (pss_one (ps_expr (bmK K rfl (pe_bm PySem.F.plainAttrs_list PySem.F.slot_list_append PySem.F.type_list_append mt_append (pv 2) (pa_cons (pv 5) pa_nil))))) pss_nil)))))
 (pss_one (ps_ret (pv 2))))), fn_read (N := ["_law_purse_here", "_law_people", "_law_found", "_law_k", "_law_pair", "_law_one_exchange"]) (ab := ab_law_exchanges) (fun ea => ?_) red_law_exchanges h⟩
  unfold ab_law_exchanges
  exact (RS.seq (RS.asg (RN.lst RA.nil))
 (RS.seq (RS.for (RI.rng1 (RR.cons (RE.op oAdd_ok RE.int (RE.fz (RN.call0 (asp := sp_law_draw) (RA.consL RE.var (RA.cons RE.int RA.nil))))) RR.nil)) RG.nm
 (RS.seq (RS.asg (RN.slL (RE.fz (RN.call0 (asp := sp_law_order) (RA.consL RE.var (RA.cons RE.var RA.nil)))) RO.none (RO.some RE.int)))
 (RS.seq (RS.asg (RN.of (RE.tup (RA.cons (RE.op oIx_ok RE.var RE.int) (RA.cons (RE.op oIx_ok RE.var RE.int) (RA.cons (RE.op oIx_ok (RE.fz (RN.lst (RA.cons RE.str (RA.cons RE.str (RA.cons RE.str (RA.cons RE.str RA.nil)))))) (RE.fz (RN.call0 (asp := sp_law_draw) (RA.consL RE.var (RA.cons RE.int RA.nil))))) RA.nil))))))
 (RS.ifs (RT.test (RE.op oIn_ok RE.var RE.var))
 (RS.drop (RE.bm mAppend_ok RE.var (RA.cons RE.var RA.nil)))
 RS.next))))
 (RS.ret RN.move)))
end
end K13

set_option Elab.async false
set_option linter.all false
set_option maxRecDepth 100000
set_option maxHeartbeats 400000
set_option pp.deepTerms false
set_option pp.maxSteps 400
namespace K13
open PySem PySem.Spec PyProof.Rows L2 Ly Zi Zs Lc K06
open PySem.W (minD AlikeAll)
local macro_rules | `(tactic| walk_at "z") => `(tactic| simp (config := { dsimp := false }) only [aSeq, aIf, aT, aYes, aAnd, aOr, aNot, aOp, aOpL, aUn, aVar, aC, aRaw, aMove, pk, q_peek_w, q_peek_s, q_peekW_d, q_peekW_loc, q_cellD_lst, q_cellD_dic, ↓q_toW_w, q_toW_w, ↓q_toW_s, q_toW_s, ↓q_toL_w, q_toL_w, ↓q_toL_s, q_toL_s, ↓q_nToW_w, q_nToW_w, ↓q_nToW_lst, q_nToW_lst, ↓q_nToW_dic, q_nToW_dic, q_put_w, q_put_n, q_getC_loc, q_getC_s, q_putC_loc, q_putC_s, aFz, aN, aAsg, aAsgT, q_bind_nm, q_bind_tp, q_binds_nil, q_binds_cons, aRet, aRetN, aDrop, aDropN, aNext, aBreak, aCont, aAug, aSetIx, aDPut, aCall, aCons, aConsL, aNil, aLst, aTup, lstC, wsD, rCons, rNil, pks, aCB, aCBL, aBM, aBM0, isL, mAppend, mPop, mPopAt,
  aSlL, aSlT, aRevL, aNo, aSome, aAndV, aOrV, aNotV, aIfE, aChain, aDIn, aDGet, aDNew, withDic, Zi.keyOf, cut2, part32, eqD_str, inD2, all_str2, aFor, aForE, comesBack, aLc, aSortSet, aPutS, aCl, aIL, aIT, aIR1, aIR2, aIE, aIZ, aIS, wipeE, backE,
  q_cellD_dit, q_nToW_dit, q_key_int, aXGet, aXIn, aXGet1, aXNew, aXPut, aXSetd, withX, bXLen, aIXK, aIXI, aXDict, aXOne, aXDc, aXEmit, aNLen, aNEmit, aFld, aSetF, aMake, aAugS, bAll, bAny, bSum, bInt, aTupOf, aLenSet, oRep, aCallD, aCallN, aTupW, aIxW, aAsgW, eqI2, eqI3, aLenW, aDead, bLenS, aConsN, nToL, w0s, bindWs, W0.w, oAdd, oSub, oMul, oMulW, oMod, oDiv, oDivW, oPow, oLt, oLe, oGt, oGe, oI, oIc, oEq, oNe, oIn, oIx, oCat, oAddS, oInS, oIs, oIsNot, oIsB, oIsNB, Zi.isNon, oNeg, oBits, bLen, bList, bMax2, bMin2, bMin, aIsi, aSetSl, tyN, kit_NoneType_bool, kit_NoneType_int, kit_NoneType_str, kit_NoneType_list, kit_NoneType_tuple, kit_NoneType_dict, kit_bool_bool, kit_bool_int, kit_bool_str, kit_bool_list, kit_bool_tuple, kit_bool_dict, kit_int_bool, kit_int_int, kit_int_str, kit_int_list, kit_int_tuple, kit_int_dict, kit_str_bool, kit_str_int, kit_str_str, kit_str_list, kit_str_tuple, kit_str_dict, kit_list_bool, kit_list_int, kit_list_str, kit_list_list, kit_list_tuple, kit_list_dict, kit_tuple_bool, kit_tuple_int, kit_tuple_str, kit_tuple_list, kit_tuple_tuple, kit_tuple_dict, kit_dict_bool, kit_dict_int, kit_dict_str, kit_dict_list, kit_dict_tuple, kit_dict_dict, 
  List.getElem?_cons_zero, List.getElem?_cons_succ, List.set_cons_zero, List.set_cons_succ, List.length_cons, List.length_nil, List.set_set, List.getElem?_set_self, Nat.zero_le, okD_nil, okD_str, okD_int, okD_bl, okD_non, ea0, at0, at1, at2, at3, ix0, ix1, ix2, true_and, and_true, Bool.false_eq_true, Bool.not_true, Bool.not_false, ↓reduceIte, *])
local macro_rules | `(tactic| walk_at "y") => `(tactic| simp only [aSeq, aIf, aT, aYes, aAnd, aOr, aNot, aOp, aOpL, aUn, aVar, aC, aRaw, aMove, pk, q_peek_w, q_peek_s, q_peekW_d, q_peekW_loc, q_cellD_lst, q_cellD_dic, ↓q_toW_w, q_toW_w, ↓q_toW_s, q_toW_s, ↓q_toL_w, q_toL_w, ↓q_toL_s, q_toL_s, ↓q_nToW_w, q_nToW_w, ↓q_nToW_lst, q_nToW_lst, ↓q_nToW_dic, q_nToW_dic, q_put_w, q_put_n, q_getC_loc, q_getC_s, q_putC_loc, q_putC_s, aFz, aN, aAsg, aAsgT, q_bind_nm, q_bind_tp, q_binds_nil, q_binds_cons, aRet, aRetN, aDrop, aDropN, aNext, aBreak, aCont, aAug, aSetIx, aDPut, aCall, aCons, aConsL, aNil, aLst, aTup, lstC, wsD, rCons, rNil, pks, aCB, aCBL, aBM, aBM0, isL, mAppend, mPop, mPopAt,
  aSlL, aSlT, aRevL, aNo, aSome, aAndV, aOrV, aNotV, aIfE, aChain, aDIn, aDGet, aDNew, withDic, Zi.keyOf, cut2, part32, eqD_str, inD2, all_str2, aFor, aForE, comesBack, aLc, aSortSet, aPutS, aCl, aIL, aIT, aIR1, aIR2, aIE, aIZ, aIS, wipeE, backE,
  q_cellD_dit, q_nToW_dit, q_key_int, aXGet, aXIn, aXGet1, aXNew, aXPut, aXSetd, withX, bXLen, aIXK, aIXI, aXDict, aXOne, aXDc, aXEmit, aNLen, aNEmit, aFld, aSetF, aMake, aAugS, bAll, bAny, bSum, bInt, aTupOf, aLenSet, oRep, aCallD, aCallN, aTupW, aIxW, aAsgW, eqI2, eqI3, aLenW, aDead, bLenS, aConsN, nToL, w0s, bindWs, W0.w, oAdd, oSub, oMul, oMulW, oMod, oDiv, oDivW, oPow, oLt, oLe, oGt, oGe, oI, oIc, oEq, oNe, oIn, oIx, oCat, oAddS, oInS, oIs, oIsNot, oIsB, oIsNB, Zi.isNon, oNeg, oBits, bLen, bList, bMax2, bMin2, bMin, aIsi, aSetSl, tyN, kit_NoneType_bool, kit_NoneType_int, kit_NoneType_str, kit_NoneType_list, kit_NoneType_tuple, kit_NoneType_dict, kit_bool_bool, kit_bool_int, kit_bool_str, kit_bool_list, kit_bool_tuple, kit_bool_dict, kit_int_bool, kit_int_int, kit_int_str, kit_int_list, kit_int_tuple, kit_int_dict, kit_str_bool, kit_str_int, kit_str_str, kit_str_list, kit_str_tuple, kit_str_dict, kit_list_bool, kit_list_int, kit_list_str, kit_list_list, kit_list_tuple, kit_list_dict, kit_tuple_bool, kit_tuple_int, kit_tuple_str, kit_tuple_list, kit_tuple_tuple, kit_tuple_dict, kit_dict_bool, kit_dict_int, kit_dict_str, kit_dict_list, kit_dict_tuple, kit_dict_dict, 
  List.getElem?_cons_zero, List.getElem?_cons_succ, List.set_cons_zero, List.set_cons_succ, List.length_cons, List.length_nil, List.set_set, List.getElem?_set_self, Nat.zero_le, okD_nil, okD_str, okD_int, okD_bl, okD_non, ea0, at0, at1, at2, at3, ix0, ix1, ix2, true_and, and_true, Bool.false_eq_true, Bool.not_true, Bool.not_false, ↓reduceIte, *])

section
variable {P : Program} [Zi.Wd] {K : PySem.W.Frag} {mg : Str → Option Value} {base : Heap}

theorem okE_way (w : Way) : okE (wayL w) := ⟨rfl, by show (2 : Nat) ≤ 58; decide⟩
def ab_law_machine_rows : XA → ASt := fun ea =>
 (aSeq (aAsg 3 (aN (aOp oAdd (aC (.int 1)) (aFz (aCall ea0 2 sp_law_draw (aConsL (aVar 0) (aCons (aVar 2) aNil)))))))
 (aSeq (aAsg 4 (aCall ea0 2 sp_law_exchanges (aConsL (aVar 0) (aCons (aVar 1) aNil))))
 (aSeq (aAsg 5 (aLst aNil))
 (aSeq (aFor (aIR1 (rCons (aVar 3) rNil)) (.nm 6)
 (aSeq (aAsg 7 (aLst aNil))
 (aSeq (aFor (aIL (aVar 4)) (.nm 8)
 (aIf (aT (aOp oLt (aFz (aCall ea0 2 sp_law_draw (aConsL (aVar 0) (aCons (aC (.int 5)) aNil)))) (aC (.int 3))))
 (aDrop (aBM mAppend (aVar 7) (aCons (aTup (aCons (aVar 8) (aCons (aFz (aCall ea0 2 sp_law_draw (aConsL (aVar 0) (aCons (aVar 3) aNil)))) aNil))) aNil)))
 aNext))
 (aDrop (aBM mAppend (aVar 5) (aCons (aTup (aCons (aOp oEq (aFz (aCall ea0 2 sp_law_draw (aConsL (aVar 0) (aCons (aC (.int 3)) aNil)))) (aC (.int 0))) (aCons (aFz (aCall ea0 2 sp_law_order (aConsL (aVar 0) (aCons (aVar 7) aNil)))) aNil))) aNil))))))
 (aRet (aMove 5))))))
theorem go_law_machine_rows {w0 w1 w2 : W} {st : List Cell} {A : Zi.N → List Cell → Prop} {Ea : XA} (h : ab_law_machine_rows Ea ⟨fun s => A (.w (.d .non)) s.st, A, fun _ => False, fun _ => False⟩ ⟨[.v w0, .v w1, .v w2, .no, .no, .no, .no, .no, .no], st⟩) : aFn 9 ab_law_machine_rows [w0, w1, w2] st A Ea := h
def sp_law_machine_rows : ASp := fun ws st A _ => ∃ (p : Nat) (ss : List Str) (most : Nat) (a b c : Int), ws = [.loc p, .d (.lst (ss.map D.str)), .d (natD most)] ∧ 1 ≤ most ∧ most ≤ 9 ∧ 2 ≤ ss.length ∧ ss.length ≤ 10 ∧ ss.Nodup ∧ (∀ s ∈ ss, nameOk s) ∧ st[p]? = some (Pur a b c) ∧ PurOk a b c ∧ c + 500 ≤ 1000000 ∧
  ∀ (t : Tab) (a' b' c' : Int), RowsOk t → (∀ r ∈ t, r.2.length ≤ 5) → t.length ≤ most → PurOk a' b' c' → c ≤ c' → c' ≤ c + 500 → A (.new (.lst (t.map rowL))) (st.set p (Pur a' b' c'))
structure RowOk (n : Nat) (r : Row) : Prop where
  nd : (keys r.2).Nodup
  lt : ∀ w ∈ r.2, w.2 < n
  ex : ∀ w ∈ r.2, exOk w.1
  fw : r.2.length ≤ 5
theorem rows_ok {t : Tab} (h0 : 0 < t.length) (h9 : t.length ≤ 9) (h : ∀ r ∈ t, RowOk t.length r) : RowsOk t where
  pos := h0
  few := by omega
  nd := fun r hr => (h r hr).nd
  lt := fun r hr => (h r hr).lt
  ws := fun r hr => by have := (h r hr).fw; omega
  ex := fun r hr => (h r hr).ex
  fw := fun r hr => by have := (h r hr).fw; omega
theorem red_law_machine_rows (ws st A Ea) (_ : ws.length = 3) (h : sp_law_machine_rows ws st A Ea) : aFn 9 ab_law_machine_rows ws st A Ea := by
  obtain ⟨p, ss, most, a, b, c, rfl, m1, m9, l2, l10, snd, sok, hp, hpo, hc, q⟩ := h
  have hpl : p < st.length := (List.getElem?_eq_some_iff.mp hp).1
  refine go_law_machine_rows ?_
  unfold ab_law_machine_rows
  walk_at "y"
  refine ⟨p, most, a, b, c, rfl, by omega, by omega, hp, hpo, by omega, fun r a1 b1 c1 r0 r1 po1 h1 h2 => ?_⟩
  obtain ⟨n0, rfl⟩ := Int.eq_ofNat_of_zero_le r0
  walk_at "y"
  refine ⟨p, ss, a1, b1, c1, rfl, l2, l10, snd, sok, List.getElem?_set_self hpl, po1, by omega, fun es a2 b2 c2 end_ eok el po2 h3 h4 => ?_⟩
  walk_at "y"
  refine ⟨⟨by omega, by omega⟩, ?_⟩
  have en : (1 : Int) + (n0 : Int) = ((n0 + 1 : Nat) : Int) := by omega
  rw [en]
  have hn : n0 + 1 ≤ most := by omega
  generalize n0 + 1 = n at *
  refine forGo_ind (fun ds s => ∃ (t : Tab) (y4 y6 y7 y8 : Sl) (a' b' c' : Int), s = ⟨[.v (.loc p), .v (.d (.lst (ss.map D.str))), .v (.d (natD most)), .v (.d (natD n)), y4, .own (.lst (t.map rowL)), y6, y7, y8], st.set p (Pur a' b' c')⟩ ∧ (y4 = .own (.lst (es.map exD)) ∨ y4 = .v (.d (.lst (es.map exD)))) ∧ (∀ r ∈ t, RowOk n r) ∧ t.length + ds.length = n ∧ PurOk a' b' c' ∧ c ≤ c' ∧ c' + 32 * ds.length ≤ c + 500) ?_ ?_ _ _ ⟨[], _, _, _, _, a2, b2, c2, rfl, .inl rfl, fun e he => (nomatch he), by rw [upto_length]; simp, po2, by omega, by rw [upto_length]; omega⟩
  · rintro s ⟨t, y4, y6, y7, y8, a', b', c', rfl, _, ok, hl, po, h5, h6⟩
    have hl : t.length = n := by simpa using hl
    walk_at "y"
    refine q t a' b' c' (rows_ok (by omega) (by omega) (by rw [hl]; exact ok)) (fun r hr => (ok r hr).fw) (by omega) po h5 (by simpa using h6)
  · rintro d ds s k hk ⟨t, y4, y6, y7, y8, a', b', c', rfl, h4y, ok, hl, po, h5, h6⟩
    rw [List.length_cons] at hl h6
    have hk2 : ∀ (t : Tab) y4 y6 y7 y8 a' b' c', (y4 = .own (.lst (es.map exD)) ∨ y4 = .v (.d (.lst (es.map exD)))) → (∀ r ∈ t, RowOk n r) → t.length + ds.length = n → PurOk a' b' c' → c ≤ c' → c' + 32 * ds.length ≤ c + 500 → k ⟨[.v (.loc p), .v (.d (.lst (ss.map D.str))), .v (.d (natD most)), .v (.d (natD n)), y4, .own (.lst (t.map rowL)), y6, y7, y8], st.set p (Pur a' b' c')⟩ := fun t y4 y6 y7 y8 a' b' c' h0 h1 h2 h3 h4 h5 => hk _ ⟨t, y4, y6, y7, y8, a', b', c', rfl, h0, h1, h2, h3, h4, h5⟩
    clear hk q
    simp only [q_bind_nm, List.set_cons_succ, List.set_cons_zero]
    rcases h4y with rfl | rfl
    all_goals
      walk_at "y"
      refine forGo_ty exD (fun pre ys s => ∃ (ws : List Way) (y8 : Sl) (a3 b3 c3 : Int), s = ⟨[.v (.loc p), .v (.d (.lst (ss.map D.str))), .v (.d (natD most)), .v (.d (natD n)), .v (.d (.lst (es.map exD))), .own (.lst (t.map rowL)), .v (.d d), .own (.lst (ws.map wayL)), y8], st.set p (Pur a3 b3 c3)⟩ ∧ (keys ws).Sublist pre ∧ (∀ w ∈ ws, w.2 < n) ∧ PurOk a3 b3 c3 ∧ c' ≤ c3 ∧ c3 ≤ c' + 4 * pre.length) es ?_ ?_ _ ⟨[], _, a', b', c', rfl, List.Sublist.refl _, fun w hw => (nomatch hw), po, Int.le_refl _, by simp⟩
      · rintro s ⟨ws, y8, a3, b3, c3, rfl, sub, lt, po3, h7, h8⟩
        have hwl : ws.length ≤ 5 := by have := sub.length_le; rw [keys_len2] at this; omega
        walk_at "y"
        refine ⟨p, 3, a3, b3, c3, rfl, by decide, by decide, List.getElem?_set_self hpl, po3, by omega, fun r2 a4 b4 c4 q0 q1 po4 h9 h10 => ?_⟩
        walk_at "y"
        rw [eqD_int]
        refine ⟨p, ws.map wayL, a4, b4, c4, rfl, fun d hd => ?_, by rw [List.length_map]; omega, List.getElem?_set_self hpl, po4, by rw [List.length_map]; omega, fun ds' a5 b5 c5 pm po5 h11 h12 => ?_⟩
        · obtain ⟨w, _, rfl⟩ := List.mem_map.mp hd
          exact okE_way w
        obtain ⟨us, rfl, pu⟩ := perm_ways pm
        rw [List.length_map] at h12
        have hrow : RowOk n (decide (r2 = 0), us) := by
          refine ⟨?_, fun w hw => lt w (pu.mem_iff.mp hw), fun w hw => ?_, by rw [pu.length_eq]; exact hwl⟩
          · have : (keys us).Perm (keys ws) := pu.map _
            exact this.nodup_iff.mpr (sub.nodup end_)
          · have : w.1 ∈ keys ws := List.mem_map.mpr ⟨w, pu.mem_iff.mp hw, rfl⟩
            exact eok _ (sub.subset this)
        have := hk2 (t ++ [(decide (r2 = 0), us)]) (.v (.d (.lst (es.map exD)))) (.v (.d d)) (.v (.d (.lst (ws.map wayL)))) y8 a5 b5 c5 (.inr rfl) (fun r hr => by
          rcases List.mem_append.mp hr with hr | hr
          · exact ok r hr
          · rw [List.mem_singleton.mp hr]; exact hrow) (by rw [List.length_append, List.length_singleton]; omega) po5 (by omega) (by omega)
        rw [List.map_append] at this
        clear hk2
        walk_at "y"
        refine ⟨by decide, by rw [List.length_map]; exact size1000' (by omega), ?_⟩
        exact this
      · rintro pre x ys s k2 e1 hk3 ⟨ws, y8, a3, b3, c3, rfl, sub, lt, po3, h7, h8⟩
        have hpl2 : pre.length < 5 := by
          have : es.length = pre.length + (ys.length + 1) := by rw [e1, List.length_append, List.length_cons]
          omega
        clear e1
        simp only [List.length_append, List.length_singleton] at hk3
        walk_at "y"
        refine ⟨p, 5, a3, b3, c3, rfl, by decide, by decide, List.getElem?_set_self hpl, po3, by omega, fun r2 a4 b4 c4 q0 q1 po4 h9 h10 => ?_⟩
        have hk5 : ∀ (ws : List Way) (y8 : Sl) (a3 b3 c3 : Int), (keys ws).Sublist (pre ++ [x]) → (∀ w ∈ ws, w.2 < n) → PurOk a3 b3 c3 → c' ≤ c3 → c3 ≤ c' + 4 * ((pre.length + 1 : Nat) : Int) → k2 ⟨[.v (.loc p), .v (.d (.lst (ss.map D.str))), .v (.d (natD most)), .v (.d (natD n)), .v (.d (.lst (es.map exD))), .own (.lst (t.map rowL)), .v (.d d), .own (.lst (ws.map wayL)), y8], st.set p (Pur a3 b3 c3)⟩ := fun ws y8 a3 b3 c3 g1 g2 g3 g4 g5 => hk3 _ ⟨ws, y8, a3, b3, c3, rfl, g1, g2, g3, g4, g5⟩
        clear hk3 hk2
        walk_at "y"
        by_cases z : r2 < 3
        · rw [if_pos (decide_eq_true z)]
          have hws : ws.length < 5 := by have := sub.length_le; rw [keys_len2] at this; omega
          refine ⟨p, n, a4, b4, c4, rfl, by omega, by omega, List.getElem?_set_self hpl, po4, by omega, fun r3 a5 b5 c5 q2 q3 po5 h11 h12 => ?_⟩
          obtain ⟨g, rfl⟩ := Int.eq_ofNat_of_zero_le q2
          have := hk5 (ws ++ [(x, g)]) (.v (.d (exD x))) a5 b5 c5 (by
            unfold keys at sub ⊢
            rw [List.map_append]
            exact List.Sublist.append sub (List.Sublist.refl _)) (fun w hw => by
            rcases List.mem_append.mp hw with hw | hw
            · exact lt w hw
            · rw [List.mem_singleton.mp hw]; show g < n; omega) po5 (by omega) (by omega)
          rw [List.map_append] at this
          clear hk5
          walk_at "y"
          refine ⟨by decide, by rw [List.length_map]; exact size1000' (by omega), ?_⟩
          exact this
        · rw [if_neg (fun y => z (of_decide_eq_true y))]
          exact hk5 ws _ a4 b4 c4 (sub.trans (List.sublist_append_left _ _)) lt po4 (by omega) (by omega)
theorem ok_law_machine_rows (T : Top K mg) : FnOk P w K mg base CX0 5 T.a_law_machine_rows T.fd_law_machine_rows ["_law_purse_here", "_law_people", "_law_most"] (SpA 3 sp_law_machine_rows) := by
  refine T.F_law_machine_rows.ok sc_law_machine_rows (fun vs H Q E h => SpA.len h) (fun cdv A outer s H vs Q E hr h => ?_)
  refine ⟨_, (pss_cons (ps_set (i := 3) sc_law_machine_rows.nd rfl (Or.inl rfl) (pe_op op_add pe_int (pe_call (ok_law_draw T) (hr.mono (by decide)) (by rfl) T.g_law_draw T.F_law_draw.kp T.b_law_draw .nil pass0 (pa_cons (pv 0) (pa_cons (pv 2) pa_nil)))))
 (pss_cons (ps_set (i := 4) sc_law_machine_rows.nd rfl (Or.inl rfl) (pe_call (ok_law_exchanges T) (hr.mono (by decide)) (by rfl) T.g_law_exchanges T.F_law_exchanges.kp T.b_law_exchanges .nil pass0 (pa_cons (pv 0) (pa_cons (pv 1) pa_nil))))
 (pss_cons (ps_set (i := 5) sc_law_machine_rows.nd rfl (Or.inl rfl) (pe_lst pa_nil))
 (pss_cons (ps_for PassesOwn.never rfl (pi_range1 rfl T.z_range (pa_cons (pv 3) pa_nil)) (pg_name (i := 6) sc_law_machine_rows.nd rfl (Or.inl rfl)) (pss_cons (ps_set (i := 7) sc_law_machine_rows.nd rfl (Or.inl rfl) (pe_lst pa_nil))
 (pss_cons (ps_for PassesOwn.never rfl (pi_listK K rfl (pv 4)) (pg_name (i := 8) sc_law_machine_rows.nd rfl (Or.inl rfl)) (pss_one (ps_if (pt_cmpR op_lt (pe_call (ok_law_draw T) (hr.mono (by decide)) (by rfl) T.g_law_draw T.F_law_draw.kp T.b_law_draw .nil pass0 (pa_cons (pv 0) (pa_cons pe_int pa_nil))) pe_int (nomark _)) (pss_one (ps_expr (bmK K rfl (pe_bm PySem.F.plainAttrs_list PySem.F.slot_list_append PySem.F.type_list_append mt_append (pv 7) (pa_cons (pe_tup (pa_cons (pv 8) (pa_cons (pe_call (ok_law_draw T) (hr.mono (by decide)) (by rfl) T.g_law_draw T.F_law_draw.kp T.b_law_draw .nil pass0 (pa_cons (pv 0) (pa_cons (pv 3) pa_nil))) pa_nil))) pa_nil))))) pss_nil)))
 (pss_one (ps_expr (bmK K rfl (pe_bm PySem.F.plainAttrs_list PySem.F.slot_list_append PySem.F.type_list_append mt_append (pv 5) (pa_cons (pe_tup (pa_cons (pe_cmpR (op_eqQ hr.units) (pe_call (ok_law_draw T) (hr.mono (by decide)) (by rfl) T.g_law_draw T.F_law_draw.kp T.b_law_draw .nil pass0 (pa_cons (pv 0) (pa_cons pe_int pa_nil))) pe_int (nomark _)) (pa_cons (pe_call (ok_law_order T) (hr.mono (by decide)) (by rfl) T.g_law_order T.F_law_order.kp T.b_law_order .nil pass0 (pa_cons (pv 0) (pa_cons (pv 7) pa_nil))) pa_nil))) pa_nil))))))))
 (pss_one (ps_ret (pv 5))))))), fn_read (N := ["_law_purse_here", "_law_people", "_law_most", "_law_many", "_law_some", "_law_found", "_law_k", "_law_ways", "_law_exchange"]) (ab := ab_law_machine_rows) (fun ea => ?_) red_law_machine_rows h⟩
  unfold ab_law_machine_rows
  exact (RS.seq (RS.asg (RN.of (RE.op oAdd_ok RE.int (RE.fz (RN.call0 (asp := sp_law_draw) (RA.consL RE.var (RA.cons RE.var RA.nil)))))))
 (RS.seq (RS.asg (RN.call0 (asp := sp_law_exchanges) (RA.consL RE.var (RA.cons RE.var RA.nil))))
 (RS.seq (RS.asg (RN.lst RA.nil))
 (RS.seq (RS.for (RI.rng1 (RR.cons RE.var RR.nil)) RG.nm
 (RS.seq (RS.asg (RN.lst RA.nil))
 (RS.seq (RS.for (RI.list RE.var) RG.nm
 (RS.ifs (RT.test (RE.op oLt_ok (RE.fz (RN.call0 (asp := sp_law_draw) (RA.consL RE.var (RA.cons RE.int RA.nil)))) RE.int))
 (RS.drop (RE.bm mAppend_ok RE.var (RA.cons (RE.tup (RA.cons RE.var (RA.cons (RE.fz (RN.call0 (asp := sp_law_draw) (RA.consL RE.var (RA.cons RE.var RA.nil)))) RA.nil))) RA.nil)))
 RS.next))
 (RS.drop (RE.bm mAppend_ok RE.var (RA.cons (RE.tup (RA.cons (RE.op oEq_ok (RE.fz (RN.call0 (asp := sp_law_draw) (RA.consL RE.var (RA.cons RE.int RA.nil)))) RE.int) (RA.cons (RE.fz (RN.call0 (asp := sp_law_order) (RA.consL RE.var (RA.cons RE.var RA.nil)))) RA.nil))) RA.nil))))))
 (RS.ret RN.move)))))
end
end K13

set_option Elab.async false
set_option linter.all false
set_option maxRecDepth 100000
set_option maxHeartbeats 400000
set_option pp.deepTerms false
set_option pp.maxSteps 400
namespace K13
open PySem PySem.Spec PyProof.Rows L2 Ly Zi Zs Lc K06
open PySem.W (minD AlikeAll)
local macro_rules | `(tactic| walk_at "z") => `(tactic| simp (config := { dsimp := false }) only [aSeq, aIf, aT, aYes, aAnd, aOr, aNot, aOp, aOpL, aUn, aVar, aC, aRaw, aMove, pk, q_peek_w, q_peek_s, q_peekW_d, q_peekW_loc, q_cellD_lst, q_cellD_dic, ↓q_toW_w, q_toW_w, ↓q_toW_s, q_toW_s, ↓q_toL_w, q_toL_w, ↓q_toL_s, q_toL_s, ↓q_nToW_w, q_nToW_w, ↓q_nToW_lst, q_nToW_lst, ↓q_nToW_dic, q_nToW_dic, q_put_w, q_put_n, q_getC_loc, q_getC_s, q_putC_loc, q_putC_s, aFz, aN, aAsg, aAsgT, q_bind_nm, q_bind_tp, q_binds_nil, q_binds_cons, aRet, aRetN, aDrop, aDropN, aNext, aBreak, aCont, aAug, aSetIx, aDPut, aCall, aCons, aConsL, aNil, aLst, aTup, lstC, wsD, rCons, rNil, pks, aCB, aCBL, aBM, aBM0, isL, mAppend, mPop, mPopAt,
  aSlL, aSlT, aRevL, aNo, aSome, aAndV, aOrV, aNotV, aIfE, aChain, aDIn, aDGet, aDNew, withDic, Zi.keyOf, cut2, part32, eqD_str, inD2, all_str2, aFor, aForE, comesBack, aLc, aSortSet, aPutS, aCl, aIL, aIT, aIR1, aIR2, aIE, aIZ, aIS, wipeE, backE,
  q_cellD_dit, q_nToW_dit, q_key_int, aXGet, aXIn, aXGet1, aXNew, aXPut, aXSetd, withX, bXLen, aIXK, aIXI, aXDict, aXOne, aXDc, aXEmit, aNLen, aNEmit, aFld, aSetF, aMake, aAugS, bAll, bAny, bSum, bInt, aTupOf, aLenSet, oRep, aCallD, aCallN, aTupW, aIxW, aAsgW, eqI2, eqI3, aLenW, aDead, bLenS, aConsN, nToL, w0s, bindWs, W0.w, oAdd, oSub, oMul, oMulW, oMod, oDiv, oDivW, oPow, oLt, oLe, oGt, oGe, oI, oIc, oEq, oNe, oIn, oIx, oCat, oAddS, oInS, oIs, oIsNot, oIsB, oIsNB, Zi.isNon, oNeg, oBits, bLen, bList, bMax2, bMin2, bMin, aIsi, aSetSl, tyN, kit_NoneType_bool, kit_NoneType_int, kit_NoneType_str, kit_NoneType_list, kit_NoneType_tuple, kit_NoneType_dict, kit_bool_bool, kit_bool_int, kit_bool_str, kit_bool_list, kit_bool_tuple, kit_bool_dict, kit_int_bool, kit_int_int, kit_int_str, kit_int_list, kit_int_tuple, kit_int_dict, kit_str_bool, kit_str_int, kit_str_str, kit_str_list, kit_str_tuple, kit_str_dict, kit_list_bool, kit_list_int, kit_list_str, kit_list_list, kit_list_tuple, kit_list_dict, kit_tuple_bool, kit_tuple_int, kit_tuple_str, kit_tuple_list, kit_tuple_tuple, kit_tuple_dict, kit_dict_bool, kit_dict_int, kit_dict_str, kit_dict_list, kit_dict_tuple, kit_dict_dict, 
  List.getElem?_cons_zero, List.getElem?_cons_succ, List.set_cons_zero, List.set_cons_succ, List.length_cons, List.length_nil, List.set_set, List.getElem?_set_self, Nat.zero_le, okD_nil, okD_str, okD_int, okD_bl, okD_non, ea0, at0, at1, at2, at3, ix0, ix1, ix2, true_and, and_true, Bool.false_eq_true, Bool.not_true, Bool.not_false, ↓reduceIte, *])
local macro_rules | `(tactic| walk_at "y") => `(tactic| simp only [aSeq, aIf, aT, aYes, aAnd, aOr, aNot, aOp, aOpL, aUn, aVar, aC, aRaw, aMove, pk, q_peek_w, q_peek_s, q_peekW_d, q_peekW_loc, q_cellD_lst, q_cellD_dic, ↓q_toW_w, q_toW_w, ↓q_toW_s, q_toW_s, ↓q_toL_w, q_toL_w, ↓q_toL_s, q_toL_s, ↓q_nToW_w, q_nToW_w, ↓q_nToW_lst, q_nToW_lst, ↓q_nToW_dic, q_nToW_dic, q_put_w, q_put_n, q_getC_loc, q_getC_s, q_putC_loc, q_putC_s, aFz, aN, aAsg, aAsgT, q_bind_nm, q_bind_tp, q_binds_nil, q_binds_cons, aRet, aRetN, aDrop, aDropN, aNext, aBreak, aCont, aAug, aSetIx, aDPut, aCall, aCons, aConsL, aNil, aLst, aTup, lstC, wsD, rCons, rNil, pks, aCB, aCBL, aBM, aBM0, isL, mAppend, mPop, mPopAt,
  aSlL, aSlT, aRevL, aNo, aSome, aAndV, aOrV, aNotV, aIfE, aChain, aDIn, aDGet, aDNew, withDic, Zi.keyOf, cut2, part32, eqD_str, inD2, all_str2, aFor, aForE, comesBack, aLc, aSortSet, aPutS, aCl, aIL, aIT, aIR1, aIR2, aIE, aIZ, aIS, wipeE, backE,
  q_cellD_dit, q_nToW_dit, q_key_int, aXGet, aXIn, aXGet1, aXNew, aXPut, aXSetd, withX, bXLen, aIXK, aIXI, aXDict, aXOne, aXDc, aXEmit, aNLen, aNEmit, aFld, aSetF, aMake, aAugS, bAll, bAny, bSum, bInt, aTupOf, aLenSet, oRep, aCallD, aCallN, aTupW, aIxW, aAsgW, eqI2, eqI3, aLenW, aDead, bLenS, aConsN, nToL, w0s, bindWs, W0.w, oAdd, oSub, oMul, oMulW, oMod, oDiv, oDivW, oPow, oLt, oLe, oGt, oGe, oI, oIc, oEq, oNe, oIn, oIx, oCat, oAddS, oInS, oIs, oIsNot, oIsB, oIsNB, Zi.isNon, oNeg, oBits, bLen, bList, bMax2, bMin2, bMin, aIsi, aSetSl, tyN, kit_NoneType_bool, kit_NoneType_int, kit_NoneType_str, kit_NoneType_list, kit_NoneType_tuple, kit_NoneType_dict, kit_bool_bool, kit_bool_int, kit_bool_str, kit_bool_list, kit_bool_tuple, kit_bool_dict, kit_int_bool, kit_int_int, kit_int_str, kit_int_list, kit_int_tuple, kit_int_dict, kit_str_bool, kit_str_int, kit_str_str, kit_str_list, kit_str_tuple, kit_str_dict, kit_list_bool, kit_list_int, kit_list_str, kit_list_list, kit_list_tuple, kit_list_dict, kit_tuple_bool, kit_tuple_int, kit_tuple_str, kit_tuple_list, kit_tuple_tuple, kit_tuple_dict, kit_dict_bool, kit_dict_int, kit_dict_str, kit_dict_list, kit_dict_tuple, kit_dict_dict, 
  List.getElem?_cons_zero, List.getElem?_cons_succ, List.set_cons_zero, List.set_cons_succ, List.length_cons, List.length_nil, List.set_set, List.getElem?_set_self, Nat.zero_le, okD_nil, okD_str, okD_int, okD_bl, okD_non, ea0, at0, at1, at2, at3, ix0, ix1, ix2, true_and, and_true, Bool.false_eq_true, Bool.not_true, Bool.not_false, ↓reduceIte, *])

section
variable {P : Program} [Zi.Wd] {K : PySem.W.Frag} {mg : Str → Option Value} {base : Heap}

def esD (x : List Exch) : D := .lst (x.map exD)
theorem pyAll_ex (es : List Exch) : pyAll (es.map exD) = es.map pE := by rw [pyAll_map, List.map_map]; rfl
theorem eqD_exs (a b : List Exch) : eqD (.lst (a.map exD)) (.lst (b.map exD)) = decide (a = b) := by
  unfold eqD
  simp only [py, pyAll_ex]
  exact Ly.eqv_list pE pE_eqv a b
theorem okD_exs (a : List Exch) : okD (.lst (a.map exD)) = true := okD_lst fun d hd => by
  obtain ⟨e, _, rfl⟩ := List.mem_map.mp hd
  exact okE_ex e
theorem okE_bl (b : Bool) : okE (.bl b) := by cases b <;> exact ⟨rfl, by decide⟩
theorem py_es (x : List Exch) : py (esD x) = pL x := by
  show PyData.list (pyAll (x.map exD)) = pL x
  rw [pyAll_ex]; rfl
theorem okE_es (x : List Exch) : okE (esD x) := by
  unfold okE
  rw [py_es]
  refine ⟨?_, ?_⟩
  · show (PyData.list (x.map pE)).plain = true
    rw [PyData.plain, plainAll_iff]
    intro d hd
    obtain ⟨e, _, rfl⟩ := List.mem_map.mp hd
    exact (okE_ex e).1
  · have : PyData.depthAll (x.map pE) ≤ 10 := depthAll_le fun d hd => by
      obtain ⟨e, _, rfl⟩ := List.mem_map.mp hd
      show (1 : Nat) ≤ 10; decide
    show (PyData.list (x.map pE)).depth ≤ 58
    rw [PyData.depth]
    omega
theorem pyAll_es (F : List (List Exch)) : pyAll (F.map esD) = F.map pL := by
  rw [pyAll_map, List.map_map]
  exact List.map_congr_left fun x _ => py_es x
theorem okD_ess (F : List (List Exch)) : okD (.lst (F.map esD)) = true := okD_lst fun d hd => by
  obtain ⟨x, _, rfl⟩ := List.mem_map.mp hd
  exact okE_es x
theorem ess_ok (F : List (List Exch)) : PyData.plainAll (pyAll (F.map esD)) = true ∧ AlikeAll (pyAll (F.map esD)) ∧ PyData.depthAll (pyAll (F.map esD)) ≤ 60 := by
  rw [pyAll_map]
  refine ⟨plainAll_iff.mpr fun d hd => ?_, ⟨fun x hx y hy => ?_, fun x hx => ?_⟩, Nat.le_trans (depthAll_le fun d hd => ?_) (by decide : 58 ≤ 60)⟩
  · obtain ⟨e, he, rfl⟩ := List.mem_map.mp hd
    obtain ⟨x, _, rfl⟩ := List.mem_map.mp he
    exact (okE_es x).1
  · obtain ⟨p, hp, rfl⟩ := List.mem_map.mp hx
    obtain ⟨q, hq, rfl⟩ := List.mem_map.mp hy
    obtain ⟨a, _, rfl⟩ := List.mem_map.mp hp
    obtain ⟨b, _, rfl⟩ := List.mem_map.mp hq
    rw [py_es, py_es]
    exact pL_alike a b
  · obtain ⟨p, hp, rfl⟩ := List.mem_map.mp hx
    obtain ⟨a, _, rfl⟩ := List.mem_map.mp hp
    rw [py_es]
    exact fun z => nomatch z
  · obtain ⟨e, he, rfl⟩ := List.mem_map.mp hd
    obtain ⟨x, _, rfl⟩ := List.mem_map.mp he
    exact (okE_es x).2
/-! ### all of them -/
def allF (T : Tab) : Nat → List Ent
  | 0 => [([], 0)]
  | n + 1 => (allF T n).flatMap fun e => (wsS (row T e.2).2).map fun w => (e.1 ++ [w.1], w.2)
def entD (e : Ent) : D := .tup [esD e.1, natD e.2]
theorem okE_ent (e : Ent) : okE (entD e) := by
  have h := okE_es e.1
  refine ⟨?_, ?_⟩
  · show PyData.plainAll [py (esD e.1), .int e.2] = true
    simp [PyData.plainAll, PyData.plain, h.1]
  · show PyData.depth (.tuple [py (esD e.1), .int e.2]) ≤ 58
    have : (py (esD e.1)).depth ≤ 20 := by
      rw [py_es]
      have h2 : PyData.depthAll (e.1.map pE) ≤ 10 := depthAll_le fun d hd => by
        obtain ⟨x, _, rfl⟩ := List.mem_map.mp hd
        show (1 : Nat) ≤ 10; decide
      show (PyData.list (e.1.map pE)).depth ≤ 20
      rw [PyData.depth]; omega
    simp only [PyData.depth, PyData.depthAll]
    omega
theorem allF_ok {T : Tab} (R : TabOk T) (h5 : ∀ r ∈ T, r.2.length ≤ 5) : ∀ n, (allF T n).length ≤ 5 ^ n ∧ ∀ e ∈ allF T n, e.2 < T.length ∧ e.1.length = n
  | 0 => ⟨Nat.le_refl _, fun e he => by rw [List.mem_singleton.mp he]; exact ⟨R.pos, rfl⟩⟩
  | n + 1 => by
    obtain ⟨a, b⟩ := allF_ok R h5 n
    refine ⟨?_, fun e he => ?_⟩
    · have : ∀ l : List Ent, (∀ e ∈ l, e.2 < T.length) → (l.flatMap fun e => (wsS (row T e.2).2).map fun w => (e.1 ++ [w.1], w.2)).length ≤ 5 * l.length := by
        intro l
        induction l with
        | nil => intro _; exact Nat.le_refl _
        | cons e l ih =>
          intro hl
          rw [List.flatMap_cons, List.length_append, List.length_map, wsS_len, List.length_cons]
          have h1 := h5 _ (row_mem (hl e List.mem_cons_self))
          have h2 := ih fun x hx => hl x (List.mem_cons_of_mem _ hx)
          omega
      have := this (allF T n) fun e he => (b e he).1
      show (List.flatMap _ (allF T n)).length ≤ 5 ^ (n + 1)
      rw [Nat.pow_succ]
      omega
    · obtain ⟨x, hx, hy⟩ := List.mem_flatMap.mp he
      obtain ⟨w, hw, rfl⟩ := List.mem_map.mp hy
      exact ⟨R.ltS _ w hw, by rw [List.length_append, (b x hx).2]; rfl⟩
def ab_law_all_of : XA → ASt := fun ea =>
 (aSeq (aAsg 2 (aLst (aCons (aTup (aCons (aFz (aLst aNil)) (aCons (aC (.int 0)) aNil))) aNil)))
 (aSeq (aFor (aIR1 (rCons (aVar 1) rNil)) (.nm 3)
 (aSeq (aAsg 4 (aLst aNil))
 (aSeq (aFor (aIL (aVar 2)) (.tp [(.nm 5), (.nm 6)])
 (aFor (aIL (aFz (aCBL bXSort (rCons (aOp oIx (aOp oIx (aVar 0) (aVar 6)) (aC (.int 1))) rNil)))) (.nm 7)
 (aDrop (aBM mAppend (aVar 4) (aCons (aTup (aCons (aFz (aOpL oCat (aVar 5) (aFz (aLst (aCons (aVar 7) aNil))))) (aCons (aXGet (aOp oIx (aOp oIx (aVar 0) (aVar 6)) (aC (.int 1))) (aVar 7)) aNil))) aNil)))))
 (aAsg 2 (aN (aVar 4))))))
 (aRet (aMove 2))))
theorem go_law_all_of {w0 w1 : W} {st : List Cell} {A : Zi.N → List Cell → Prop} {Ea : XA} (h : ab_law_all_of Ea ⟨fun s => A (.w (.d .non)) s.st, A, fun _ => False, fun _ => False⟩ ⟨[.v w0, .v w1, .no, .no, .no, .no, .no, .no], st⟩) : aFn 8 ab_law_all_of [w0, w1] st A Ea := h
def sp_law_all_of : ASp := fun ws st A _ => ∃ (t : Tab) (n : Nat), ws = [.d (tabD t), .d (natD n)] ∧ TabOk t ∧ (∀ r ∈ t, r.2.length ≤ 5) ∧ n ≤ 4 ∧ A (.w (.d (.lst ((allF t n).map entD)))) st ∧ A (.new (.lst ((allF t n).map entD))) st
theorem red_law_all_of (ws st A Ea) (_ : ws.length = 2) (h : sp_law_all_of ws st A Ea) : aFn 8 ab_law_all_of ws st A Ea := by
  obtain ⟨t, n, rfl, R, h5, hn, q1, q2⟩ := h
  refine go_law_all_of ?_
  unfold ab_law_all_of tabD
  have few := R.few
  walk_at "z"
  refine ⟨by decide, by decide, ⟨by omega, by omega⟩, ?_⟩
  refine forGo_ind (fun ds s => ∃ k y2 y3 y4 y5 y6 y7, ds.length + k = n ∧ s = ⟨[.v (.d (.lst (t.map rowD))), .v (.d (natD n)), y2, y3, y4, y5, y6, y7], st⟩ ∧ (y2 = .own (.lst ((allF t k).map entD)) ∨ y2 = .v (.d (.lst ((allF t k).map entD))))) ?_ ?_ _ _ ⟨0, _, _, _, _, _, _, by rw [upto_length]; simp, rfl, .inl rfl⟩
  · rintro s ⟨k, y2, y3, y4, y5, y6, y7, hk, rfl, h2⟩
    have hk : k = n := by simpa using hk
    subst hk
    rcases h2 with rfl | rfl
    · exact q2
    · exact q1
  · rintro d ds s k' hk ⟨k, y2, y3, y4, y5, y6, y7, hn2, rfl, h2⟩
    rw [List.length_cons] at hn2
    have hk2 := fun y3 y4 y5 y6 y7 => hk _ ⟨k + 1, _, y3, y4, y5, y6, y7, by omega, rfl, .inr rfl⟩
    obtain ⟨hlen, hlt⟩ := allF_ok R h5 k
    have hlen : (allF t k).length ≤ 125 := Nat.le_trans hlen (Nat.le_trans (Nat.pow_le_pow_right (by decide) (by omega : k ≤ 3)) (by decide))
    have es : allF t (k + 1) = (allF t k).flatMap fun e => (wsS (row t e.2).2).map fun w => (e.1 ++ [w.1], w.2) := rfl
    rw [es] at hk2
    clear hk q1 q2 es
    generalize allF t k = F at *
    rcases h2 with rfl | rfl
    all_goals
      simp only [q_bind_nm, List.set_cons_succ, List.set_cons_zero]
      walk_at "z"
      refine forGo_ty entD (fun pre ys s => ∃ y5 y6 y7, s = ⟨[.v (.d (.lst (t.map rowD))), .v (.d (natD n)), .v (.d (.lst (F.map entD))), .v (.d d), .own (.lst ((pre.flatMap fun e => (wsS (row t e.2).2).map fun w => (e.1 ++ [w.1], w.2)).map entD)), y5, y6, y7], st⟩) F ?_ ?_ _ ⟨_, _, _, rfl⟩
      · rintro s ⟨y5, y6, y7, rfl⟩
        walk_at "z"
      · rintro pre e ys s k2 e1 hk3 ⟨y5, y6, y7, rfl⟩
        have he := hlt e (by rw [e1]; simp)
        have hk4 := fun y5 y6 y7 => hk3 _ ⟨y5, y6, y7, rfl⟩
        have hpl : (pre.flatMap fun e => (wsS (row t e.2).2).map fun w => (e.1 ++ [w.1], w.2)).length ≤ 5 * pre.length := by
          have : ∀ l : List Ent, (∀ e ∈ l, e.2 < t.length) → (l.flatMap fun e => (wsS (row t e.2).2).map fun w => (e.1 ++ [w.1], w.2)).length ≤ 5 * l.length := by
            intro l
            induction l with
            | nil => intro _; exact Nat.le_refl _
            | cons e l ih =>
              intro hl
              rw [List.flatMap_cons, List.length_append, List.length_map, wsS_len, List.length_cons]
              have h1 := h5 _ (row_mem (hl e List.mem_cons_self))
              have h2 := ih fun x hx => hl x (List.mem_cons_of_mem _ hx)
              omega
          exact this pre fun x hx => (hlt x (by rw [e1]; simp [hx])).1
        have hpre : pre.length < 125 := by
          have : F.length = pre.length + (ys.length + 1) := by rw [e1, List.length_append, List.length_cons]
          omega
        rw [List.flatMap_append, List.flatMap_cons, List.flatMap_nil, List.append_nil, wsS_eq, List.map_map] at hk4
        generalize (pre.flatMap fun e => (wsS (row t e.2).2).map fun w => (e.1 ++ [w.1], w.2)) = B at *
        have b2 := atI_map (f := rowD) (row_at he.1)
        have b3 : rowD (row t e.2) = .tup [.bl (row t e.2).1, waysD (row t e.2).2] := rfl
        rw [b3] at b2
        have hr5 := h5 _ (row_mem he.1)
        have b4 : entD e = .tup [esD e.1, natD e.2] := rfl
        have hes : esD e.1 = .lst (e.1.map exD) := rfl
        have hel := he.2
        clear hk3 hk2 hlt e1 hlen
        rw [b4, hes]
        walk_at "z"
        refine bXSort_ways ?_
        refine forGo_ty exD (fun pre2 ys s => ∃ y7, s = ⟨[.v (.d (.lst (t.map rowD))), .v (.d (natD n)), .v (.d (.lst (F.map entD))), .v (.d d), .own (.lst ((B ++ pre2.map fun x => (e.1 ++ [x], (getW (row t e.2).2 x).2)).map entD)), .v (.d (.lst (e.1.map exD))), .v (.d (natD e.2)), y7], st⟩) (sortE (keys (row t e.2).2)) ?_ ?_ _ ⟨_, by rw [List.map_nil, List.append_nil]⟩
        · rintro s ⟨y7, rfl⟩
          exact hk4 _ _ _
        · rintro pre2 x ys2 s k3 e2 hk5 ⟨y7, rfl⟩
          have hx : x ∈ sortE (keys (row t e.2).2) := by rw [e2]; simp
          have hp2 : pre2.length < 5 := by
            have h1 : (sortE (keys (row t e.2).2)).length = pre2.length + (ys2.length + 1) := by rw [e2, List.length_append, List.length_cons]
            rw [keys_len] at h1
            omega
          have c1 := dlook_ways hx
          have c2 : waysD (row t e.2).2 = .dit true ((dP exD natD (row t e.2).2).map (·.1)) ((dP exD natD (row t e.2).2).map (·.2)) := rfl
          have ckx := key_ex x
          have hk6 := fun y7 => hk5 _ ⟨y7, rfl⟩
          rw [List.map_append (l₁ := pre2), ← List.append_assoc, List.map_append (f := entD)] at hk6
          have hz : ((B ++ pre2.map fun x => (e.1 ++ [x], (getW (row t e.2).2 x).2)).map entD).length < sizeLine := by
            rw [List.length_map, List.length_append, List.length_map]
            exact size1000' (by omega)
          have hz2 : (e.1.map exD).length + (0 + 1) ≤ sizeLine := by rw [List.length_map]; exact size1000 (by omega)
          have hfin : D.tup [.lst (e.1.map exD ++ [exD x]), natD (getW (row t e.2).2 x).2] = entD (e.1 ++ [x], (getW (row t e.2).2 x).2) := by
            unfold entD esD
            rw [List.map_append]; rfl
          generalize (B ++ pre2.map fun x => (e.1 ++ [x], (getW (row t e.2).2 x).2)).map entD = G at *
          clear hk5 hk4 e2
          walk_at "z"
          exact ⟨by decide, by decide, hk6 _⟩
theorem ok_law_all_of (T : Top K mg) : FnOk P w K mg base CX0 1 T.a_law_all_of T.fd_law_all_of ["_law_table_here", "_law_length_here"] (SpA 2 sp_law_all_of) := by
  refine T.F_law_all_of.ok sc_law_all_of (fun vs H Q E h => SpA.len h) (fun cdv A outer s H vs Q E hr h => ?_)
  refine ⟨_, (pss_cons (ps_set (i := 2) sc_law_all_of.nd rfl (Or.inl rfl) (pe_lst (pa_cons (pe_tup (pa_cons (pe_lst pa_nil) (pa_cons pe_int pa_nil))) pa_nil)))
 (pss_cons (ps_for PassesOwn.never rfl (pi_range1 rfl T.z_range (pa_cons (pv 1) pa_nil)) (pg_name (i := 3) sc_law_all_of.nd rfl (Or.inl rfl)) (pss_cons (ps_set (i := 4) sc_law_all_of.nd rfl (Or.inl rfl) (pe_lst pa_nil))
 (pss_cons (ps_for PassesOwn.never rfl (pi_listK K rfl (pv 2)) (pg_tup (by rfl) (pgs_cons (pg_name (i := 5) sc_law_all_of.nd rfl (Or.inl rfl)) (pgs_cons (pg_name (i := 6) sc_law_all_of.nd rfl (Or.inl rfl)) pgs_nil))) (pss_one (ps_for PassesOwn.never rfl (pi_listK K rfl (pe_callB (cr_xsortK K rfl rfl hr.units) (by rfl) T.z_sorted (by decide +kernel) (pa_cons (pe_ix (ix_seqK K rfl) (pe_ix (ix_seqK K rfl) (pv 0) (pv 6) (fun _ _ => rfl)) pe_int (fun _ _ => rfl)) pa_nil))) (pg_name (i := 7) sc_law_all_of.nd rfl (Or.inl rfl)) (pss_one (ps_expr (bmK K rfl (pe_bm PySem.F.plainAttrs_list PySem.F.slot_list_append PySem.F.type_list_append mt_append (pv 4) (pa_cons (pe_tup (pa_cons (pe_op op_cat (pv 5) (pe_lst (pa_cons (pv 7) pa_nil))) (pa_cons (pe_xget rfl hr.units (pe_ix (ix_seqK K rfl) (pe_ix (ix_seqK K rfl) (pv 0) (pv 6) (fun _ _ => rfl)) pe_int (fun _ _ => rfl)) (pv 7) (fun _ _ => rfl)) pa_nil))) pa_nil))))))))
 (pss_one (ps_set (i := 2) sc_law_all_of.nd rfl (Or.inl rfl) (pv 4))))))
 (pss_one (ps_ret (pv 2))))), fn_read (N := ["_law_table_here", "_law_length_here", "_law_found", "_law_turn", "_law_more", "_law_history", "_law_at_here", "_law_exchange"]) (ab := ab_law_all_of) (fun ea => ?_) red_law_all_of h⟩
  unfold ab_law_all_of
  exact (RS.seq (RS.asg (RN.lst (RA.cons (RE.tup (RA.cons (RE.fz (RN.lst RA.nil)) (RA.cons RE.int RA.nil))) RA.nil)))
 (RS.seq (RS.for (RI.rng1 (RR.cons RE.var RR.nil)) RG.nm
 (RS.seq (RS.asg (RN.lst RA.nil))
 (RS.seq (RS.for (RI.list RE.var) (RG.tp (RGs.cons RG.nm (RGs.cons RG.nm RGs.nil)) rfl)
 (RS.for (RI.list (RE.fz (RN.cb bXSort_ok (RR.cons (RE.op oIx_ok (RE.op oIx_ok RE.var RE.var) RE.int) RR.nil)))) RG.nm
 (RS.drop (RE.bm mAppend_ok RE.var (RA.cons (RE.tup (RA.cons (RE.fz (RN.op oCat_ok RE.var (RE.fz (RN.lst (RA.cons RE.var RA.nil))))) (RA.cons (RE.xget (RE.op oIx_ok (RE.op oIx_ok RE.var RE.var) RE.int) RE.var) RA.nil))) RA.nil)))))
 (RS.asg (RN.of RE.var)))))
 (RS.ret RN.move)))
/-! ### counts, from the ends on -/
def cntN (T : Tab) (b : Bool) : Nat → List Int
  | 0 => T.map fun r => if (r.1 || !b) = true then 1 else 0
  | n + 1 => T.map fun r => ((wsS r.2).map fun w => (cntN T b n).getD w.2 0).sum
theorem cntN_len (T : Tab) (b : Bool) : ∀ n, (cntN T b n).length = T.length
  | 0 => List.length_map ..
  | n + 1 => List.length_map ..
def ab_law_counted : XA → ASt := fun ea =>
 (aSeq (aAsg 5 (aLc (aIL (aVar 0)) (.tp [(.nm 3), (.nm 4)]) aYes (aCB bInt (rCons (aOrV (aVar 3) (aNotV (aVar 2))) rNil)) [3, 4]))
 (aSeq (aFor (aIR1 (rCons (aVar 1) rNil)) (.nm 6)
 (aSeq (aAsg 7 (aLst aNil))
 (aSeq (aFor (aIL (aVar 0)) (.tp [(.nm 3), (.nm 4)])
 (aDrop (aBM mAppend (aVar 7) (aCons (aCB bSum (rCons (aFz (aLc (aIL (aFz (aCBL bXSort (rCons (aVar 4) rNil)))) (.nm 8) aYes (aOp oIx (aVar 5) (aXGet (aVar 4) (aVar 8))) [8])) rNil)) aNil))))
 (aAsg 5 (aN (aVar 7))))))
 (aRet (aN (aOp oIx (aVar 5) (aC (.int 0)))))))
theorem go_law_counted {w0 w1 w2 : W} {st : List Cell} {A : Zi.N → List Cell → Prop} {Ea : XA} (h : ab_law_counted Ea ⟨fun s => A (.w (.d .non)) s.st, A, fun _ => False, fun _ => False⟩ ⟨[.v w0, .v w1, .v w2, .no, .no, .no, .no, .no, .no], st⟩) : aFn 9 ab_law_counted [w0, w1, w2] st A Ea := h
def sp_law_counted : ASp := fun ws st A _ => ∃ (t : Tab) (n : Nat) (b : Bool), ws = [.d (tabD t), .d (natD n), .d (.bl b)] ∧ TabOk t ∧ n ≤ 1000 ∧ A (.w (.d (.int ((cntN t b n).getD 0 0)))) st
theorem red_law_counted (ws st A Ea) (_ : ws.length = 3) (h : sp_law_counted ws st A Ea) : aFn 9 ab_law_counted ws st A Ea := by
  obtain ⟨t, n, b, rfl, R, hn, q⟩ := h
  refine go_law_counted ?_
  unfold ab_law_counted tabD
  have few := R.few
  have pos := R.pos
  walk_at "z"
  refine lcGo_ty rowD (fun _ => true) (fun r => intD (if (r.1 || !b) = true then 1 else 0)) t (by omega) ?_ ?_
  · refine fun r hr => ⟨_, rfl, rfl, fun A hA => hA, fun _ A hA => ?_⟩
    have b3 : rowD r = .tup [.bl r.1, waysD r.2] := rfl
    clear q
    cases z : r.1 <;> cases b <;> (rw [z] at hA; exact hA)
  rw [List.filter_eq_self.mpr fun _ _ => rfl, show (t.map fun r => intD (if (r.1 || !b) = true then 1 else 0)) = (cntN t b 0).map intD by unfold cntN; rw [List.map_map]; rfl]
  walk_at "z"
  refine ⟨⟨by omega, by omega⟩, ?_⟩
  refine forGo_ind (fun ds s => ∃ k y3 y4 y5 y6 y7 y8, ds.length + k = n ∧ s = ⟨[.v (.d (.lst (t.map rowD))), .v (.d (natD n)), .v (.d (.bl b)), y3, y4, y5, y6, y7, y8], st⟩ ∧ (y5 = .own (.lst ((cntN t b k).map intD)) ∨ y5 = .v (.d (.lst ((cntN t b k).map intD))))) ?_ ?_ _ _ ⟨0, _, _, _, _, _, _, by rw [upto_length]; simp, rfl, .inl rfl⟩
  · rintro s ⟨k, y3, y4, y5, y6, y7, y8, hk, rfl, h5⟩
    have hk : k = n := by simpa using hk
    subst hk
    have h0 : L2.atI ((cntN t b k).map intD) 0 = some (intD ((cntN t b k).getD 0 0)) := atI_map (f := intD) (i := 0) (getI_at (by rw [cntN_len]; exact pos))
    rcases h5 with rfl | rfl
    all_goals
      walk_at "z"
  · rintro d ds s k' hk ⟨k, y3, y4, y5, y6, y7, y8, hn2, rfl, h5⟩
    rw [List.length_cons] at hn2
    have hk2 := fun y3 y4 y6 y7 y8 => hk _ ⟨k + 1, y3, y4, _, y6, y7, y8, by omega, rfl, .inr rfl⟩
    have hlen := cntN_len t b k
    have es : cntN t b (k + 1) = t.map fun r => ((wsS r.2).map fun w => (cntN t b k).getD w.2 0).sum := rfl
    rw [es] at hk2
    clear hk q es
    generalize cntN t b k = c at *
    rcases h5 with rfl | rfl
    all_goals
      simp only [q_bind_nm, List.set_cons_succ, List.set_cons_zero]
      walk_at "z"
      refine forGo_ty rowD (fun pre ys s => ∃ y3 y4 y8, s = ⟨[.v (.d (.lst (t.map rowD))), .v (.d (natD n)), .v (.d (.bl b)), y3, y4, _, .v (.d d), .own (.lst ((pre.map fun r => ((wsS r.2).map fun w => c.getD w.2 0).sum).map intD)), y8], st⟩) t ?_ ?_ _ ⟨_, _, _, rfl⟩
      · rintro s ⟨y3, y4, y8, rfl⟩
        walk_at "z"
      · rintro pre r ys s k2 e1 hk3 ⟨y3, y4, y8, rfl⟩
        have hr : r ∈ t := by rw [e1]; simp
        have hpl : pre.length < 400 := by
          have : t.length = pre.length + (ys.length + 1) := by rw [e1, List.length_append, List.length_cons]
          omega
        have hk4 := fun y3 y4 y8 => hk3 _ ⟨y3, y4, y8, rfl⟩
        rw [List.map_append, List.map_append] at hk4
        have b3 : rowD r = .tup [.bl r.1, waysD r.2] := rfl
        have hw := R.ws r hr
        have hlt := R.lt r hr
        have hrw : ([r].map fun r : Row => ((wsS r.2).map fun w => c.getD w.2 0).sum).map intD = [intD (((sortE (keys r.2)).map fun e => c.getD (getW r.2 e).2 0).sum)] := by
          show [intD (((wsS r.2).map fun w => c.getD w.2 0).sum)] = _
          rw [wsS_eq, List.map_map]; rfl
        rw [hrw] at hk4
        have hz : ((pre.map fun r => ((wsS r.2).map fun w => c.getD w.2 0).sum).map intD).length < sizeLine := by rw [List.length_map, List.length_map]; exact size1000' (by omega)
        generalize (pre.map fun r => ((wsS r.2).map fun w => c.getD w.2 0).sum).map intD = G at *
        clear hk3 hk2 e1
        rw [b3]
        clear hrw
        walk_at "z"
        refine bXSort_ways ?_
        refine lcGo_ty exD (fun _ => true) (fun e => intD (c.getD (getW r.2 e).2 0)) (sortE (keys r.2)) (by rw [keys_len]; omega) ?_ ?_
        · refine fun e he => ⟨_, rfl, rfl, fun A hA => hA, fun _ A hA => ?_⟩
          have c1 := dlook_ways he
          have c2 : waysD r.2 = .dit true ((dP exD natD r.2).map (·.1)) ((dP exD natD r.2).map (·.2)) := rfl
          have hg := hlt _ (lookA_mem (look_key he))
          have c3 := atI_map (f := intD) (getI_at (c := c) (i := (getW r.2 e).2) (by omega))
          have ckx := key_ex e
          clear hk4 b3
          rw [c2]
          walk_at "z"
          exact hA
        · rw [List.filter_eq_self.mpr fun _ _ => rfl]
          have ei : intsD ((sortE (keys r.2)).map fun e => intD (c.getD (getW r.2 e).2 0)) = some ((sortE (keys r.2)).map fun e => c.getD (getW r.2 e).2 0) := intsD_map (fun e => c.getD (getW r.2 e).2 0) _
          clear b3
          walk_at "z"
theorem ok_law_counted (T : Top K mg) : FnOk P w K mg base CX0 1 T.a_law_counted T.fd_law_counted ["_law_table_here", "_law_length_here", "_law_to_end"] (SpA 3 sp_law_counted) := by
  refine T.F_law_counted.ok sc_law_counted (fun vs H Q E h => SpA.len h) (fun cdv A outer s H vs Q E hr h => ?_)
  refine ⟨_, (pss_cons (ps_set (i := 5) sc_law_counted.nd rfl (Or.inr rfl) (pe_lc (own := [("_law_ends", 3), ("_law_ways", 4)]) (g := gTup _ 2 (gCons (gName 3) (gCons (gName 4) gNil))) (tt := tYes) rfl sc_law_counted.nd (pi_listK K rfl (pv 0)) (blkOk_by (own := [("_law_ends", 3), ("_law_ways", 4)]) (N := ["_law_table_here", "_law_length_here", "_law_to_end", "_law_ends", "_law_ways", "_law_ends_here", "_law_turn", "_law_after", "_law_exchange"]) (sc := defScope s_law_counted) (by decide +kernel)) (fun _ _ _ _ _ => (pg_tup (by rfl) (pgs_cons (pg_name (i := 3) sc_law_counted.nd rfl (Or.inl rfl)) (pgs_cons (pg_name (i := 4) sc_law_counted.nd rfl (Or.inl rfl)) pgs_nil)))) (fun _ _ _ _ _ => pts_nil) (fun _ _ _ _ _ => (pe_callTy call_int1 (by rfl) T.z_int (by decide +kernel) (pa_cons (pe_or (pv 3) (pe_one (pe_not (pv 2)))) pa_nil)))))
 (pss_cons (ps_for PassesOwn.never rfl (pi_range1 rfl T.z_range (pa_cons (pv 1) pa_nil)) (pg_name (i := 6) sc_law_counted.nd rfl (Or.inl rfl)) (pss_cons (ps_set (i := 7) sc_law_counted.nd rfl (Or.inl rfl) (pe_lst pa_nil))
 (pss_cons (ps_for PassesOwn.never rfl (pi_listK K rfl (pv 0)) (pg_tup (by rfl) (pgs_cons (pg_name (i := 3) sc_law_counted.nd rfl (Or.inl rfl)) (pgs_cons (pg_name (i := 4) sc_law_counted.nd rfl (Or.inr rfl)) pgs_nil))) (pss_one (ps_expr (bmK K rfl (pe_bm PySem.F.plainAttrs_list PySem.F.slot_list_append PySem.F.type_list_append mt_append (pv 7) (pa_cons (pe_callB (cr_sum rfl) (by rfl) T.z_sum (by decide +kernel) (pa_cons (pe_lc (own := [("_law_exchange", 8)]) (g := gName 8) (tt := tYes) rfl sc_law_counted.nd (pi_listK K rfl (pe_callB (cr_xsortK K rfl rfl hr.units) (by rfl) T.z_sorted (by decide +kernel) (pa_cons (pv 4) pa_nil))) (blkOk_by (own := [("_law_exchange", 8)]) (N := ["_law_table_here", "_law_length_here", "_law_to_end", "_law_ends", "_law_ways", "_law_ends_here", "_law_turn", "_law_after", "_law_exchange"]) (sc := defScope s_law_counted) (by decide +kernel)) (fun _ _ _ _ _ => (pg_name (i := 8) sc_law_counted.nd rfl (Or.inl rfl))) (fun _ _ _ _ _ => pts_nil) (fun _ _ _ _ _ => (pe_ix (ix_seqK K rfl) (pv 5) (pe_xget rfl hr.units (pv 4) (pv 8) (fun _ _ => rfl)) (fun _ _ => rfl)))) pa_nil)) pa_nil))))))
 (pss_one (ps_set (i := 5) sc_law_counted.nd rfl (Or.inr rfl) (pv 7))))))
 (pss_one (ps_ret (pe_ix (ix_seqK K rfl) (pv 5) pe_int (fun _ _ => rfl)))))), fn_read (N := ["_law_table_here", "_law_length_here", "_law_to_end", "_law_ends", "_law_ways", "_law_ends_here", "_law_turn", "_law_after", "_law_exchange"]) (ab := ab_law_counted) (fun ea => ?_) red_law_counted h⟩
  unfold ab_law_counted
  exact (RS.seq (RS.asg (RN.lc (RI.list RE.var) (RG.tp (RGs.cons RG.nm (RGs.cons RG.nm RGs.nil)) rfl) RT.yes (RE.cb bInt_ok (RR.cons (RE.orV RE.var (RE.notV RE.var)) RR.nil)) (by decide)))
 (RS.seq (RS.for (RI.rng1 (RR.cons RE.var RR.nil)) RG.nm
 (RS.seq (RS.asg (RN.lst RA.nil))
 (RS.seq (RS.for (RI.list RE.var) (RG.tp (RGs.cons RG.nm (RGs.cons RG.nm RGs.nil)) rfl)
 (RS.drop (RE.bm mAppend_ok RE.var (RA.cons (RE.cb bSum_ok (RR.cons (RE.fz (RN.lc (RI.list (RE.fz (RN.cb bXSort_ok (RR.cons RE.var RR.nil)))) RG.nm RT.yes (RE.op oIx_ok RE.var (RE.xget RE.var RE.var)) (by decide))) RR.nil)) RA.nil))))
 (RS.asg (RN.of RE.var)))))
 (RS.ret (RN.of (RE.op oIx_ok RE.var RE.int)))))
end
end K13

set_option Elab.async false
set_option linter.all false
set_option maxRecDepth 100000
set_option maxHeartbeats 400000
set_option pp.deepTerms false
set_option pp.maxSteps 400
namespace K13
open PySem PySem.Spec PyProof.Rows L2 Ly Zi Zs Lc K06
open PySem.W (minD AlikeAll)
local macro_rules | `(tactic| walk_at "z") => `(tactic| simp (config := { dsimp := false }) only [aSeq, aIf, aT, aYes, aAnd, aOr, aNot, aOp, aOpL, aUn, aVar, aC, aRaw, aMove, pk, q_peek_w, q_peek_s, q_peekW_d, q_peekW_loc, q_cellD_lst, q_cellD_dic, ↓q_toW_w, q_toW_w, ↓q_toW_s, q_toW_s, ↓q_toL_w, q_toL_w, ↓q_toL_s, q_toL_s, ↓q_nToW_w, q_nToW_w, ↓q_nToW_lst, q_nToW_lst, ↓q_nToW_dic, q_nToW_dic, q_put_w, q_put_n, q_getC_loc, q_getC_s, q_putC_loc, q_putC_s, aFz, aN, aAsg, aAsgT, q_bind_nm, q_bind_tp, q_binds_nil, q_binds_cons, aRet, aRetN, aDrop, aDropN, aNext, aBreak, aCont, aAug, aSetIx, aDPut, aCall, aCons, aConsL, aNil, aLst, aTup, lstC, wsD, rCons, rNil, pks, aCB, aCBL, aBM, aBM0, isL, mAppend, mPop, mPopAt,
  aSlL, aSlT, aRevL, aNo, aSome, aAndV, aOrV, aNotV, aIfE, aChain, aDIn, aDGet, aDNew, withDic, Zi.keyOf, cut2, part32, eqD_str, inD2, all_str2, aFor, aForE, comesBack, aLc, aSortSet, aPutS, aCl, aIL, aIT, aIR1, aIR2, aIE, aIZ, aIS, wipeE, backE,
  q_cellD_dit, q_nToW_dit, q_key_int, aXGet, aXIn, aXGet1, aXNew, aXPut, aXSetd, withX, bXLen, aIXK, aIXI, aXDict, aXOne, aXDc, aXEmit, aNLen, aNEmit, aFld, aSetF, aMake, aAugS, bAll, bAny, bSum, bInt, aTupOf, aLenSet, oRep, aCallD, aCallN, aTupW, aIxW, aAsgW, eqI2, eqI3, aLenW, aDead, bLenS, aConsN, nToL, w0s, bindWs, W0.w, oAdd, oSub, oMul, oMulW, oMod, oDiv, oDivW, oPow, oLt, oLe, oGt, oGe, oI, oIc, oEq, oNe, oIn, oIx, oCat, oAddS, oInS, oIs, oIsNot, oIsB, oIsNB, Zi.isNon, oNeg, oBits, bLen, bList, bMax2, bMin2, bMin, aIsi, aSetSl, tyN, kit_NoneType_bool, kit_NoneType_int, kit_NoneType_str, kit_NoneType_list, kit_NoneType_tuple, kit_NoneType_dict, kit_bool_bool, kit_bool_int, kit_bool_str, kit_bool_list, kit_bool_tuple, kit_bool_dict, kit_int_bool, kit_int_int, kit_int_str, kit_int_list, kit_int_tuple, kit_int_dict, kit_str_bool, kit_str_int, kit_str_str, kit_str_list, kit_str_tuple, kit_str_dict, kit_list_bool, kit_list_int, kit_list_str, kit_list_list, kit_list_tuple, kit_list_dict, kit_tuple_bool, kit_tuple_int, kit_tuple_str, kit_tuple_list, kit_tuple_tuple, kit_tuple_dict, kit_dict_bool, kit_dict_int, kit_dict_str, kit_dict_list, kit_dict_tuple, kit_dict_dict, 
  List.getElem?_cons_zero, List.getElem?_cons_succ, List.set_cons_zero, List.set_cons_succ, List.length_cons, List.length_nil, List.set_set, List.getElem?_set_self, Nat.zero_le, okD_nil, okD_str, okD_int, okD_bl, okD_non, ea0, at0, at1, at2, at3, ix0, ix1, ix2, true_and, and_true, Bool.false_eq_true, Bool.not_true, Bool.not_false, ↓reduceIte, *])
local macro_rules | `(tactic| walk_at "y") => `(tactic| simp only [aSeq, aIf, aT, aYes, aAnd, aOr, aNot, aOp, aOpL, aUn, aVar, aC, aRaw, aMove, pk, q_peek_w, q_peek_s, q_peekW_d, q_peekW_loc, q_cellD_lst, q_cellD_dic, ↓q_toW_w, q_toW_w, ↓q_toW_s, q_toW_s, ↓q_toL_w, q_toL_w, ↓q_toL_s, q_toL_s, ↓q_nToW_w, q_nToW_w, ↓q_nToW_lst, q_nToW_lst, ↓q_nToW_dic, q_nToW_dic, q_put_w, q_put_n, q_getC_loc, q_getC_s, q_putC_loc, q_putC_s, aFz, aN, aAsg, aAsgT, q_bind_nm, q_bind_tp, q_binds_nil, q_binds_cons, aRet, aRetN, aDrop, aDropN, aNext, aBreak, aCont, aAug, aSetIx, aDPut, aCall, aCons, aConsL, aNil, aLst, aTup, lstC, wsD, rCons, rNil, pks, aCB, aCBL, aBM, aBM0, isL, mAppend, mPop, mPopAt,
  aSlL, aSlT, aRevL, aNo, aSome, aAndV, aOrV, aNotV, aIfE, aChain, aDIn, aDGet, aDNew, withDic, Zi.keyOf, cut2, part32, eqD_str, inD2, all_str2, aFor, aForE, comesBack, aLc, aSortSet, aPutS, aCl, aIL, aIT, aIR1, aIR2, aIE, aIZ, aIS, wipeE, backE,
  q_cellD_dit, q_nToW_dit, q_key_int, aXGet, aXIn, aXGet1, aXNew, aXPut, aXSetd, withX, bXLen, aIXK, aIXI, aXDict, aXOne, aXDc, aXEmit, aNLen, aNEmit, aFld, aSetF, aMake, aAugS, bAll, bAny, bSum, bInt, aTupOf, aLenSet, oRep, aCallD, aCallN, aTupW, aIxW, aAsgW, eqI2, eqI3, aLenW, aDead, bLenS, aConsN, nToL, w0s, bindWs, W0.w, oAdd, oSub, oMul, oMulW, oMod, oDiv, oDivW, oPow, oLt, oLe, oGt, oGe, oI, oIc, oEq, oNe, oIn, oIx, oCat, oAddS, oInS, oIs, oIsNot, oIsB, oIsNB, Zi.isNon, oNeg, oBits, bLen, bList, bMax2, bMin2, bMin, aIsi, aSetSl, tyN, kit_NoneType_bool, kit_NoneType_int, kit_NoneType_str, kit_NoneType_list, kit_NoneType_tuple, kit_NoneType_dict, kit_bool_bool, kit_bool_int, kit_bool_str, kit_bool_list, kit_bool_tuple, kit_bool_dict, kit_int_bool, kit_int_int, kit_int_str, kit_int_list, kit_int_tuple, kit_int_dict, kit_str_bool, kit_str_int, kit_str_str, kit_str_list, kit_str_tuple, kit_str_dict, kit_list_bool, kit_list_int, kit_list_str, kit_list_list, kit_list_tuple, kit_list_dict, kit_tuple_bool, kit_tuple_int, kit_tuple_str, kit_tuple_list, kit_tuple_tuple, kit_tuple_dict, kit_dict_bool, kit_dict_int, kit_dict_str, kit_dict_list, kit_dict_tuple, kit_dict_dict, 
  List.getElem?_cons_zero, List.getElem?_cons_succ, List.set_cons_zero, List.set_cons_succ, List.length_cons, List.length_nil, List.set_set, List.getElem?_set_self, Nat.zero_le, okD_nil, okD_str, okD_int, okD_bl, okD_non, ea0, at0, at1, at2, at3, ix0, ix1, ix2, true_and, and_true, Bool.false_eq_true, Bool.not_true, Bool.not_false, ↓reduceIte, *])

section
variable {P : Program} [Zi.Wd] {K : PySem.W.Frag} {mg : Str → Option Value} {base : Heap}

def sortT (t : Tab) : Tab := t.map fun r => (r.1, wsS r.2)
theorem sortT_len (t : Tab) : (sortT t).length = t.length := List.length_map ..
theorem row_sortT (t : Tab) (s : Nat) : row (sortT t) s = ((row t s).1, wsS (row t s).2) := by
  unfold row sortT
  rw [List.getD_eq_getElem?_getD, List.getElem?_map, List.getD_eq_getElem?_getD]
  cases t[s]? with
  | none =>
    have : wsS ([] : List Way) = [] := by unfold wsS keys sortE; simp
    show ((false, []) : Row) = (false, wsS [])
    rw [this]
  | some r => rfl
theorem sortT_ok {t : Tab} (T : TabOk t) : TabOk (sortT t) := by
  refine ⟨by rw [sortT_len]; exact T.pos, by rw [sortT_len]; exact T.few, fun r hr => ?_, fun r hr w hw => ?_, fun r hr => ?_⟩
  · obtain ⟨x, hx, rfl⟩ := List.mem_map.mp hr
    exact wsS_nodup (T.nd x hx)
  · obtain ⟨x, hx, rfl⟩ := List.mem_map.mp hr
    rw [sortT_len]
    exact T.lt x hx w ((wsS_perm (T.nd x hx)).mem_iff.mp hw)
  · obtain ⟨x, hx, rfl⟩ := List.mem_map.mp hr
    show (wsS x.2).length ≤ 1000
    rw [wsS_len]
    exact T.ws x hx
def FirstR (S : Tab) : Option Hist → Prop
  | none => ∀ e ∈ accF S, (row S e.2).1 = false
  | some h => ∃ k, k ≤ S.length ∧ (∀ i x, i < k → (accN S k)[i]? = some x → (row S x.2).1 = false) ∧ (∃ e ∈ (accN S k).drop k, e.1 = h ∧ (row S e.2).1 = true) ∧ (∀ e ∈ (accN S k).drop k, (row S e.2).1 = true → llt e.1 h = false) ∧ ∀ e ∈ (accN S k).drop k, e.1.length = h.length
theorem inD_nat (n : Nat) (acc : List Nat) : inD (natD n) (acc.map natD) = decide (n ∈ acc) := by
  unfold inD
  rw [List.any_map, Bool.eq_iff_iff, List.any_eq_true, decide_eq_true_eq]
  constructor
  · rintro ⟨x, hx, h⟩
    have h : eqD (natD x) (natD n) = true := h
    rw [eqD_int] at h
    have := Int.ofNat_inj.mp (of_decide_eq_true h)
    rw [← this]; exact hx
  · intro h
    exact ⟨n, h, by show eqD (natD n) (natD n) = true; rw [eqD_int]; exact decide_eq_true rfl⟩
theorem okD_ents (l : List Ent) : okD (.lst (l.map entD)) = true := okD_lst fun d hd => by
  obtain ⟨x, _, rfl⟩ := List.mem_map.mp hd
  exact okE_ent x
theorem okD_nats (l : List Nat) : (l.map natD).all okD = true := List.all_eq_true.mpr fun d hd => by
  obtain ⟨x, _, rfl⟩ := List.mem_map.mp hd
  rfl
theorem addAs_new {h : Hist} : ∀ {l : List Way} {acc : List Ent}, ∃ r, l.foldl (addA h) acc = acc ++ r ∧ ∀ x ∈ r, x.1.length = h.length + 1
  | [], acc => ⟨[], by simp, fun x hx => nomatch hx⟩
  | w :: l, acc => by
    obtain ⟨r, e, hr⟩ := addAs_new (h := h) (l := l) (acc := addA h acc w)
    have e : (w :: l).foldl (addA h) acc = addA h acc w ++ r := e
    rw [e]
    unfold addA
    split
    · exact ⟨r, rfl, hr⟩
    · refine ⟨[(h ++ [w.1], w.2)] ++ r, by simp, fun x hx => ?_⟩
      rcases List.mem_append.mp hx with hx | hx
      · rw [List.mem_singleton.mp hx, List.length_append]; rfl
      · exact hr x hx
def ab_law_first_whole : XA → ASt := fun ea =>
 (aSeq (aAsg 1 (aLst (aCons (aTup (aCons (aFz (aLst aNil)) (aCons (aC (.int 0)) aNil))) aNil)))
 (aSeq (aAsg 2 (aLst (aCons (aC (.int 0)) aNil)))
 (aSeq (aWhile (aT (aOp oNe (aVar 1) (aFz (aLst aNil))))
 (aSeq (aAsg 3 (aLst aNil))
 (aSeq (aAsg 6 (aLc (aIL (aVar 1)) (.tp [(.nm 4), (.nm 5)]) (aT (aOp oIx (aOp oIx (aVar 0) (aVar 5)) (aC (.int 0)))) (aVar 4) [4, 5]))
 (aSeq (aIf (aT (aOp oNe (aVar 6) (aFz (aLst aNil))))
 (aRet (aN (aCB bMin (rCons (aVar 6) rNil))))
 aNext)
 (aSeq (aFor (aIL (aVar 1)) (.tp [(.nm 4), (.nm 5)])
 (aFor (aIL (aFz (aCBL bXSort (rCons (aOp oIx (aOp oIx (aVar 0) (aVar 5)) (aC (.int 1))) rNil)))) (.nm 7)
 (aSeq (aAsg 8 (aN (aXGet (aOp oIx (aOp oIx (aVar 0) (aVar 5)) (aC (.int 1))) (aVar 7))))
 (aIf (aT (aOp (oIn true) (aVar 8) (aVar 2)))
 (aSeq (aDrop (aBM mAppend (aVar 2) (aCons (aVar 8) aNil)))
 (aDrop (aBM mAppend (aVar 3) (aCons (aTup (aCons (aFz (aOpL oCat (aVar 4) (aFz (aLst (aCons (aVar 7) aNil))))) (aCons (aVar 8) aNil))) aNil))))
 aNext))))
 (aAsg 1 (aN (aVar 3))))))))
 (aRet (aN (aC .non))))))
theorem go_law_first_whole {w0 : W} {st : List Cell} {A : Zi.N → List Cell → Prop} {Ea : XA} (h : ab_law_first_whole Ea ⟨fun s => A (.w (.d .non)) s.st, A, fun _ => False, fun _ => False⟩ ⟨[.v w0, .no, .no, .no, .no, .no, .no, .no, .no], st⟩) : aFn 9 ab_law_first_whole [w0] st A Ea := h
def sp_law_first_whole : ASp := fun ws st A _ => ∃ t : Tab, ws = [.d (tabD t)] ∧ TabOk t ∧ (FirstR (sortT t) none → A (.w (.d .non)) st) ∧ ∀ h, FirstR (sortT t) (some h) → A (.w (.d (esD h))) st
theorem red_law_first_whole (ws st A Ea) (_ : ws.length = 1) (h : sp_law_first_whole ws st A Ea) : aFn 9 ab_law_first_whole ws st A Ea := by
  obtain ⟨t, rfl, T, q1, q2⟩ := h
  refine go_law_first_whole ?_
  unfold ab_law_first_whole tabD
  have few := T.few
  have pos := T.pos
  have TS := sortT_ok T
  have hSl := sortT_len t
  have hrow := row_sortT t
  generalize sortT t = S at *
  walk_at "z"
  refine ⟨by decide, by decide, by decide, ?_⟩
  refine while_ind (fun m s => ∃ k y1 y3 y4 y5 y6 y7 y8, s = ⟨[.v (.d (.lst (t.map rowD))), y1, .own (.lst (((accN S k).map (·.2)).map natD)), y3, y4, y5, y6, y7, y8], st⟩ ∧ (y1 = .own (.lst (((accN S k).drop k).map entD)) ∨ y1 = .v (.d (.lst (((accN S k).drop k).map entD)))) ∧ k ≤ (accN S k).length ∧ m + k = t.length ∧ (∀ i x, i < k → (accN S k)[i]? = some x → (row S x.2).1 = false) ∧ ∃ l : Nat, ∀ e ∈ (accN S k).drop k, e.1.length = l) ?_ t.length _ ⟨0, _, _, _, _, _, _, _, rfl, .inl rfl, Nat.zero_le _, rfl, fun i x h => absurd h (Nat.not_lt_zero _), 0, fun e he => by rw [List.mem_singleton.mp he]; rfl⟩
  rintro m s k' hk ⟨k, y1, y3, y4, y5, y6, y7, y8, rfl, h1y, h1, h2, no, l, hll⟩
  have hl := accN_len TS k
  have hok := accN_ok TS k
  rw [hSl] at hl hok
  have e0 := okD_ents ((accN S k).drop k)
  have hdl : ((accN S k).drop k).length = (accN S k).length - k := List.length_drop ..
  rcases h1y with rfl | rfl
  all_goals
    walk_at "z"
    rw [eqD_nil]
    by_cases lt : k < (accN S k).length
    · have ne : (((accN S k).drop k).map entD).isEmpty = false := by
        rw [List.isEmpty_eq_false_iff_exists_mem]
        exact ⟨_, List.mem_map_of_mem (List.getElem_mem (n := 0) (by rw [hdl]; omega))⟩
      rw [ne]
      simp only [Bool.not_false, if_true]
      have hmem : ∀ e ∈ (accN S k).drop k, e.2 < t.length := fun e he => hok.2 e (List.mem_of_mem_drop he)
      have hro : ∀ s, (row S s).1 = (row t s).1 := fun s => by rw [hrow]
      clear ne e0
      refine lcGo_ty entD (fun e => (row S e.2).1) (fun e => esD e.1) ((accN S k).drop k) (by omega) ?_ ?_
      · refine fun e he => ⟨_, rfl, rfl, fun A hA => ?_, fun _ A hA => hA⟩
        have b2 := atI_map (f := rowD) (row_at (hmem e he))
        have b3 : rowD (row t e.2) = .tup [.bl (row t e.2).1, waysD (row t e.2).2] := rfl
        rw [b3] at b2
        rw [hro] at hA
        clear q1 q2 hk hro hrow
        walk_at "z"
        exact hA
      have hess := okD_ess ((((accN S k).drop k).filter fun e => (row S e.2).1).map (·.1))
      have hmm : ((((accN S k).drop k).filter fun e => (row S e.2).1).map fun e => esD e.1) = ((((accN S k).drop k).filter fun e => (row S e.2).1).map (·.1)).map esD := by rw [List.map_map]; rfl
      rw [hmm]
      clear hmm
      have hww : ∀ h ∈ (((accN S k).drop k).filter fun e => (row S e.2).1).map (·.1), ∃ e ∈ (accN S k).drop k, e.1 = h ∧ (row S e.2).1 = true := fun h hh => by
        obtain ⟨e, he, rfl⟩ := List.mem_map.mp hh
        exact ⟨e, (List.mem_filter.mp he).1, rfl, (List.mem_filter.mp he).2⟩
      have hwn : ∀ e ∈ (accN S k).drop k, (row S e.2).1 = true → e.1 ∈ (((accN S k).drop k).filter fun e => (row S e.2).1).map (·.1) := fun e he hw => List.mem_map.mpr ⟨e, List.mem_filter.mpr ⟨he, hw⟩, rfl⟩
      generalize (((accN S k).drop k).filter fun e => (row S e.2).1).map (·.1) = W at *
      walk_at "z"
      rw [eqD_nil]
      cases W with
      | cons h0 hs =>
        have ne2 : ((h0 :: hs).map esD).isEmpty = false := rfl
        rw [ne2]
        simp only [Bool.not_false, if_true]
        have ok := ess_ok (h0 :: hs)
        refine ⟨ok.1, ok.2.1, ok.2.2, fun i z hz hm => ?_⟩
        rw [← List.map_cons] at hz
        obtain ⟨x, hx, rfl⟩ := List.mem_map.mp (List.mem_of_getElem? hz)
        have least : ∀ y ∈ h0 :: hs, llt y x = false := fun y hy => by
          unfold llt
          rw [← py_es, ← py_es, hm]
          refine minD_le _ _ _ ?_
          rcases List.mem_cons.mp hy with rfl | hy
          · exact .inl rfl
          · exact .inr (by rw [pyAll_map]; exact List.mem_map_of_mem (List.mem_map_of_mem hy))
        obtain ⟨e, he, ex, ew⟩ := hww x hx
        exact q2 x ⟨k, by omega, no, ⟨e, he, ex, ew⟩, fun y hy hw => least _ (hwn y hy hw), fun y hy => by rw [hll y hy, ← ex, hll e he]⟩
      | nil =>
        have ne2 : (([] : List Hist).map esD).isEmpty = true := rfl
        rw [ne2]
        simp only [Bool.not_true, Bool.false_eq_true, if_false]
        have hnw : ∀ e ∈ (accN S k).drop k, (row S e.2).1 = false := fun e he => by
          cases z : (row S e.2).1 with
          | false => rfl
          | true => exact nomatch hwn e he z
        have hk2 : ∀ y3 y4 y5 y6 y7 y8, (∀ e ∈ (accN S (accN S k).length).drop (accN S k).length, e.1.length = l + 1) → k' ⟨[.v (.d (.lst (t.map rowD))), .v (.d (.lst (((accN S (accN S k).length).drop (accN S k).length).map entD))), .own (.lst (((accN S (accN S k).length).map (·.2)).map natD)), y3, y4, y5, y6, y7, y8], st⟩ := fun y3 y4 y5 y6 y7 y8 hll2 => by
          obtain ⟨r, er⟩ := accN_pre S k ((accN S k).length - k)
          rw [show k + ((accN S k).length - k) = (accN S k).length by omega] at er
          refine hk (t.length - (accN S k).length) _ (by omega) ⟨(accN S k).length, _, y3, y4, y5, y6, y7, y8, rfl, .inr rfl, by rw [er, List.length_append]; omega, by omega, fun i x hi hx => ?_, l + 1, hll2⟩
          rw [er, List.getElem?_append_left hi] at hx
          by_cases hik : i < k
          · exact no i x hik hx
          · refine hnw x (List.mem_of_getElem? (i := i - k) ?_)
            rw [List.getElem?_drop, show k + (i - k) = i by omega]; exact hx
        have hL0 : ∀ j, (accN S k).length ≤ (accN S (k + j)).length := fun j => by
          obtain ⟨r, er⟩ := accN_pre S k j
          rw [er, List.length_append]; omega
        have hpre : ∀ j x, ((accN S k).drop k)[j]? = some x → (accN S (k + j))[k + j]? = some x := fun j x hx => by
          obtain ⟨r, er⟩ := accN_pre S k j
          rw [List.getElem?_drop] at hx
          have := (List.getElem?_eq_some_iff.mp hx).1
          rw [er, List.getElem?_append_left this]; exact hx
        have hlj := fun j => accN_len TS (k + j)
        have hokj := fun j => accN_ok TS (k + j)
        have hlen0 : k + ((accN S k).drop k).length = (accN S k).length := by omega
        have hd0 : (accN S k).drop (accN S k).length = [] := List.drop_length
        have hst : ∀ j x, (accN S (k + j))[k + j]? = some x → accN S (k + (j + 1)) = (wsS (row t x.2).2).foldl (addA x.1) (accN S (k + j)) := fun j x hx => by
          show (match (accN S (k + j))[k + j]? with | some e => stepA S (accN S (k + j)) e | none => accN S (k + j)) = _
          rw [hx]
          show (row S x.2).2.foldl (addA x.1) (accN S (k + j)) = _
          rw [hrow]
        rw [hSl] at hlj hokj
        have hhl : ∀ e ∈ (accN S k).drop k, e.1.length ≤ 400 := fun e he => by
          have := accN_hist S k e (List.mem_of_mem_drop he)
          omega
        clear hk q1 q2 hww hwn hess ne2 no hok hro hrow
        generalize hL : (accN S k).drop k = L at *
        generalize (accN S k).length = n0 at *
        refine forGo_ty entD (fun pre ys s => ∃ y4 y5 y6 y7 y8, s = ⟨[.v (.d (.lst (t.map rowD))), .v (.d (.lst (L.map entD))), .own (.lst (((accN S (k + pre.length)).map (·.2)).map natD)), .own (.lst (((accN S (k + pre.length)).drop n0).map entD)), y4, y5, y6, y7, y8], st⟩ ∧ ∀ e ∈ (accN S (k + pre.length)).drop n0, e.1.length = l + 1) L ?_ ?_ _ ⟨_, _, _, _, _, by rw [List.length_nil, Nat.add_zero, hd0]; rfl, fun e he => by rw [List.length_nil, Nat.add_zero, hd0] at he; exact nomatch he⟩
        · rintro s ⟨y4, y5, y6, y7, y8, rfl, hll2⟩
          rw [hlen0] at hll2 ⊢
          have := fun y3 y4 y5 y6 y7 y8 => hk2 y3 y4 y5 y6 y7 y8 hll2
          clear hk2
          walk_at "z"
        · rintro pre e ys s k2 e1 hk3 ⟨y4, y5, y6, y7, y8, rfl, hll2⟩
          have he : e ∈ L := by rw [e1]; simp
          have hLe : L[pre.length]? = some e := by rw [e1]; simp
          have b0 := hst _ _ (hpre _ _ hLe)
          have hk4 := fun y4 y5 y6 y7 y8 h => hk3 _ ⟨y4, y5, y6, y7, y8, rfl, h⟩
          rw [List.length_append, List.length_singleton, b0] at hk4
          have hn0 := hL0 pre.length
          have hoj := hokj pre.length
          have hel := hmem e he
          have hhe := hhl e he
          have hle := hll e he
          have hw5 := T.ltS e.2
          have hnd := T.nds e.2
          have b2 := atI_map (f := rowD) (row_at hel)
          have b3 : rowD (row t e.2) = .tup [.bl (row t e.2).1, waysD (row t e.2).2] := rfl
          rw [b3] at b2
          have b4 : entD e = .tup [.lst (e.1.map exD), natD e.2] := rfl
          have hnew : ∀ x ∈ ((wsS (row t e.2).2).foldl (addA e.1) (accN S (k + pre.length))).drop n0, x.1.length = l + 1 := fun x hx => by
            obtain ⟨r, er, hr⟩ := addAs_new (h := e.1) (l := wsS (row t e.2).2) (acc := accN S (k + pre.length))
            rw [er, List.drop_append_of_le_length hn0] at hx
            rcases List.mem_append.mp hx with hx | hx
            · exact hll2 x hx
            · rw [hr x hx, hle]
          have hk5 := fun y4 y5 y6 y7 y8 => hk4 y4 y5 y6 y7 y8 hnew
          clear hk4 hk3 hnew hll2 b0 hst hpre hL0 hlj hokj hk2 e1 hLe hd0
          rw [b4]
          generalize accN S (k + pre.length) = acc0 at *
          walk_at "z"
          refine bXSort_ways ?_
          refine forGo_ty exD (fun pre2 ys s => ∃ y7 y8, s = ⟨[.v (.d (.lst (t.map rowD))), .v (.d (.lst (L.map entD))), .own (.lst ((((pre2.map (getW (row t e.2).2)).foldl (addA e.1) acc0).map (·.2)).map natD)), .own (.lst ((((pre2.map (getW (row t e.2).2)).foldl (addA e.1) acc0).drop n0).map entD)), .v (.d (.lst (e.1.map exD))),   .v (.d (natD e.2)), y6, y7, y8], st⟩) (sortE (keys (row t e.2).2)) ?_ ?_ _ ⟨_, _, rfl⟩
          · rintro s ⟨y7, y8, rfl⟩
            rw [← wsS_eq]
            exact hk5 _ _ _ _ _
          · rintro pre2 x ys2 s k3 e2 hk6 ⟨y7, y8, rfl⟩
            have hx : x ∈ sortE (keys (row t e.2).2) := by rw [e2]; simp
            have c1 := dlook_ways hx
            have c2 : waysD (row t e.2).2 = .dit true ((dP exD natD (row t e.2).2).map (·.1)) ((dP exD natD (row t e.2).2).map (·.2)) := rfl
            have ckx := key_ex x
            have hgx : (getW (row t e.2).2 x).1 = x := rfl
            have c3 : (getW (row t e.2).2 x).2 < t.length := hw5 _ (by rw [wsS_eq]; exact List.mem_map_of_mem hx)
            have hsub : ∀ w ∈ pre2.map (getW (row t e.2).2), w.2 < t.length := fun w hw => by
              obtain ⟨y, hy, rfl⟩ := List.mem_map.mp hw
              exact hw5 _ (by rw [wsS_eq]; exact List.mem_map_of_mem (by rw [e2]; simp [hy]))
            have hacc := addAs_ok (h := e.1) hoj.1 hoj.2 hsub
            obtain ⟨r, er⟩ := addAs_pre (h := e.1) (l := pre2.map (getW (row t e.2).2)) (acc := acc0)
            have hnl : n0 ≤ ((pre2.map (getW (row t e.2).2)).foldl (addA e.1) acc0).length := by rw [er, List.length_append]; omega
            have hk7 := fun y7 y8 => hk6 _ ⟨y7, y8, rfl⟩
            rw [List.map_append, List.foldl_append] at hk7
            have hs1 : ∀ a, ([x].map (getW (row t e.2).2)).foldl (addA e.1) a = addA e.1 a (getW (row t e.2).2 x) := fun a => rfl
            rw [hs1] at hk7
            generalize (pre2.map (getW (row t e.2).2)).foldl (addA e.1) acc0 = acc at *
            generalize getW (row t e.2).2 x = g at *
            have hal : acc.length ≤ t.length := by
              have := nodup_few hacc.1 (n := t.length) fun y hy => by
                obtain ⟨z, hz, rfl⟩ := List.mem_map.mp hy
                exact hacc.2 z hz
              rwa [List.length_map] at this
            have ok1 := okD_nats (acc.map (·.2))
            have im := inD_nat g.2 (acc.map (·.2))
            have ok2 : okD (natD g.2) = true := rfl
            have hz2 : (e.1.map exD).length + (0 + 1) ≤ sizeLine := by rw [List.length_map]; exact size1000 (by omega)
            have hzm : ((acc.map (·.2)).map natD).length < sizeLine := by rw [List.length_map, List.length_map]; exact size1000' (by omega)
            have hzn : ((acc.drop n0).map entD).length < sizeLine := by rw [List.length_map, List.length_drop]; exact size1000' (by omega)
            clear hk6 hk5 e2 er hs1 hsub
            by_cases z : g.2 ∈ acc.map (·.2)
            · have ea : addA e.1 acc g = acc := if_pos z
              rw [ea] at hk7
              rw [decide_eq_true z] at im
              walk_at "z"
            · have ea : addA e.1 acc g = acc ++ [(e.1 ++ [g.1], g.2)] := if_neg z
              rw [ea, List.map_append, List.map_append, List.drop_append_of_le_length hnl, List.map_append, hgx] at hk7
              rw [decide_eq_false z] at im
              have e5 : entD (e.1 ++ [x], g.2) = .tup [.lst (e.1.map exD ++ [exD x]), natD g.2] := by
                unfold entD esD
                rw [List.map_append]; rfl
              have h9 := hk7 (.v (.d (exD x))) (.v (.d (natD g.2)))
              simp only [List.map_append, List.map_cons, List.map_nil, e5] at h9
              clear hk7 e5
              walk_at "z"
              exact ⟨by decide, by decide⟩
    · have ne : (((accN S k).drop k).map entD).isEmpty = true := by
        rw [List.drop_eq_nil_of_le (by omega)]; rfl
      rw [ne]
      simp only [Bool.not_true, Bool.false_eq_true, if_false]
      refine q1 ?_
      show ∀ e ∈ accF S, (row S e.2).1 = false
      rw [accF_eq (k := k) (by omega) (by omega)]
      intro e he
      obtain ⟨i, hi, ei⟩ := List.getElem_of_mem he
      exact no i e (by omega) (by rw [List.getElem?_eq_getElem hi, ei])
theorem ok_law_first_whole (T : Top K mg) : FnOk P w K mg base CX0 1 T.a_law_first_whole T.fd_law_first_whole ["_law_table_here"] (SpA 1 sp_law_first_whole) := by
  refine T.F_law_first_whole.ok sc_law_first_whole (fun vs H Q E h => SpA.len h) (fun cdv A outer s H vs Q E hr h => ?_)
  refine ⟨_, (pss_cons (ps_set (i := 1) sc_law_first_whole.nd rfl (Or.inl rfl) (pe_lst (pa_cons (pe_tup (pa_cons (pe_lst pa_nil) (pa_cons pe_int pa_nil))) pa_nil)))
 (pss_cons (ps_set (i := 2) sc_law_first_whole.nd rfl (Or.inl rfl) (pe_lst (pa_cons pe_int pa_nil)))
 (pss_cons (ps_while PassesOwn.never (pt_cmpR (op_neQ hr.units) (pv 1) (pe_lst pa_nil) (nomark _)) (pss_cons (ps_set (i := 3) sc_law_first_whole.nd rfl (Or.inl rfl) (pe_lst pa_nil))
 (pss_cons (ps_setLc (i := 6) (own := [("_law_history", 4), ("_law_at_here", 5)]) (g := gTup _ 2 (gCons (gName 4) (gCons (gName 5) gNil))) (tt := _) rfl sc_law_first_whole.nd rfl rfl (sw_true rfl rfl rfl (by decide +kernel)) (pi_listK K rfl (pv 1)) (blkOk_by (own := [("_law_history", 4), ("_law_at_here", 5)]) (N := ["_law_table_here", "_law_found", "_law_met", "_law_more", "_law_history", "_law_at_here", "_law_whole_ones", "_law_exchange", "_law_goal"]) (sc := defScope s_law_first_whole) (by decide +kernel)) (fun _ _ _ _ _ => (pg_tup (by rfl) (pgs_cons (pg_name (i := 4) sc_law_first_whole.nd rfl (Or.inl rfl)) (pgs_cons (pg_name (i := 5) sc_law_first_whole.nd rfl (Or.inl rfl)) pgs_nil)))) (fun _ _ _ _ _ => pts_one (pt_val (pe_ix (ix_seqK K rfl) (pe_ix (ix_seqK K rfl) (pv 0) (pv 5) (fun _ _ => rfl)) pe_int (fun _ _ => rfl)))) (fun _ _ _ _ _ => (pv 4)))
 (pss_cons (ps_if (pt_cmpR (op_neQ hr.units) (pv 6) (pe_lst pa_nil) (nomark _)) (pss_one (ps_ret (pe_callB (cr_minD rfl hr.units) (by rfl) T.z_min (by decide +kernel) (pa_cons (pv 6) pa_nil)))) pss_nil)
 (pss_cons (ps_for PassesOwn.never rfl (pi_listK K rfl (pv 1)) (pg_tup (by rfl) (pgs_cons (pg_name (i := 4) sc_law_first_whole.nd rfl (Or.inl rfl)) (pgs_cons (pg_name (i := 5) sc_law_first_whole.nd rfl (Or.inl rfl)) pgs_nil))) (pss_one (ps_for PassesOwn.never rfl (pi_listK K rfl (pe_callB (cr_xsortK K rfl rfl hr.units) (by rfl) T.z_sorted (by decide +kernel) (pa_cons (pe_ix (ix_seqK K rfl) (pe_ix (ix_seqK K rfl) (pv 0) (pv 5) (fun _ _ => rfl)) pe_int (fun _ _ => rfl)) pa_nil))) (pg_name (i := 7) sc_law_first_whole.nd rfl (Or.inl rfl)) (pss_cons (ps_set (i := 8) sc_law_first_whole.nd rfl (Or.inl rfl) (pe_xget rfl hr.units (pe_ix (ix_seqK K rfl) (pe_ix (ix_seqK K rfl) (pv 0) (pv 5) (fun _ _ => rfl)) pe_int (fun _ _ => rfl)) (pv 7) (fun _ _ => rfl)))
 (pss_one (ps_if (pt_cmpR (op_niQ hr.units) (pv 8) (pv 2) (by rfl)) (pss_cons (ps_expr (bmK K rfl (pe_bm PySem.F.plainAttrs_list PySem.F.slot_list_append PySem.F.type_list_append mt_append (pv 2) (pa_cons (pv 8) pa_nil))))
 (pss_one (ps_expr (bmK K rfl (pe_bm PySem.F.plainAttrs_list PySem.F.slot_list_append PySem.F.type_list_append mt_append (pv 3) (pa_cons (pe_tup (pa_cons (pe_op op_cat (pv 4) (pe_lst (pa_cons (pv 7) pa_nil))) (pa_cons (pv 8) pa_nil))) pa_nil)))))) pss_nil))))))
 (pss_one (ps_set (i := 1) sc_law_first_whole.nd rfl (Or.inl rfl) (pv 3))))))))
 (pss_one (ps_ret pe_non))))), fn_read (N := ["_law_table_here", "_law_found", "_law_met", "_law_more", "_law_history", "_law_at_here", "_law_whole_ones", "_law_exchange", "_law_goal"]) (ab := ab_law_first_whole) (fun ea => ?_) red_law_first_whole h⟩
  unfold ab_law_first_whole
  exact (RS.seq (RS.asg (RN.lst (RA.cons (RE.tup (RA.cons (RE.fz (RN.lst RA.nil)) (RA.cons RE.int RA.nil))) RA.nil)))
 (RS.seq (RS.asg (RN.lst (RA.cons RE.int RA.nil)))
 (RS.seq (RS.while (RT.test (RE.op oNe_ok RE.var (RE.fz (RN.lst RA.nil))))
 (RS.seq (RS.asg (RN.lst RA.nil))
 (RS.seq (RS.asg (RN.lc (RI.list RE.var) (RG.tp (RGs.cons RG.nm (RGs.cons RG.nm RGs.nil)) rfl) (RT.b (RE.op oIx_ok (RE.op oIx_ok RE.var RE.var) RE.int)) RE.var (by decide)))
 (RS.seq (RS.ifs (RT.test (RE.op oNe_ok RE.var (RE.fz (RN.lst RA.nil))))
 (RS.ret (RN.of (RE.cb bMin_ok (RR.cons RE.var RR.nil))))
 RS.next)
 (RS.seq (RS.for (RI.list RE.var) (RG.tp (RGs.cons RG.nm (RGs.cons RG.nm RGs.nil)) rfl)
 (RS.for (RI.list (RE.fz (RN.cb bXSort_ok (RR.cons (RE.op oIx_ok (RE.op oIx_ok RE.var RE.var) RE.int) RR.nil)))) RG.nm
 (RS.seq (RS.asg (RN.of (RE.xget (RE.op oIx_ok (RE.op oIx_ok RE.var RE.var) RE.int) RE.var)))
 (RS.ifs (RT.test (RE.op oIn_ok RE.var RE.var))
 (RS.seq (RS.drop (RE.bm mAppend_ok RE.var (RA.cons RE.var RA.nil)))
 (RS.drop (RE.bm mAppend_ok RE.var (RA.cons (RE.tup (RA.cons (RE.fz (RN.op oCat_ok RE.var (RE.fz (RN.lst (RA.cons RE.var RA.nil))))) (RA.cons RE.var RA.nil))) RA.nil))))
 RS.next))))
 (RS.asg (RN.of RE.var)))))))
 (RS.ret (RN.of RE.non)))))
end
end K13

set_option Elab.async false
set_option linter.all false
set_option maxRecDepth 100000
set_option maxHeartbeats 1000000
/-! K13R: sums of counts. -/
namespace K13
open PySem PySem.Spec PyProof.Rows L2 Zi K06
variable [Zi.Wd]
/-! ### counts by states -/
/-- how many histories of n exchanges go on from s -/
def cnt (T : Tab) (b : Bool) : Nat → Nat → Int
  | 0, s => if ((row T s).1 || !b) = true then 1 else 0
  | n + 1, s => ((row T s).2.map fun w => cnt T b n w.2).sum
theorem sum_perm {l l' : List Int} (p : l.Perm l') : l.sum = l'.sum := by
  induction p with
  | nil => rfl
  | cons x _ ih => rw [List.sum_cons, List.sum_cons, ih]
  | swap x y l => rw [List.sum_cons, List.sum_cons, List.sum_cons, List.sum_cons]; omega
  | trans _ _ h1 h2 => exact h1.trans h2
theorem cntN_at {T : Tab} (R : TabOk T) (b : Bool) : ∀ (n s : Nat), s < T.length → (cntN T b n).getD s 0 = cnt T b n s
  | 0, s, h => by
    unfold cntN cnt
    rw [List.getD_eq_getElem?_getD, List.getElem?_map, row_at h]; rfl
  | n + 1, s, h => by
    unfold cntN cnt
    rw [List.getD_eq_getElem?_getD, List.getElem?_map, row_at h]
    show ((wsS (row T s).2).map fun w => (cntN T b n).getD w.2 0).sum = _
    have e : ((wsS (row T s).2).map fun w => (cntN T b n).getD w.2 0) = (wsS (row T s).2).map fun w => cnt T b n w.2 := by
      refine List.map_congr_left fun w hw => ?_
      exact cntN_at R b n w.2 (R.ltS s w hw)
    rw [e]
    exact sum_perm ((wsS_perm (R.nds s)).map _)
/-! ### all of them -/
theorem sum_map_add {α : Type} (f g : α → Int) : ∀ l : List α, (l.map fun x => f x + g x).sum = (l.map f).sum + (l.map g).sum
  | [] => rfl
  | x :: l => by
    rw [List.map_cons, List.sum_cons, sum_map_add f g l, List.map_cons, List.sum_cons, List.map_cons, List.sum_cons]; omega
/-- what goes on from all of them -/
theorem allF_cnt {T : Tab} (R : TabOk T) (b : Bool) : ∀ (n m : Nat), ((allF T n).map fun e => cnt T b m e.2).sum = cnt T b (n + m) 0
  | 0, m => by
    show ([(([], 0) : Ent)].map fun e => cnt T b m e.2).sum = _
    rw [List.map_cons, List.map_nil, List.sum_cons, List.sum_nil, Nat.zero_add, Int.add_zero]
  | n + 1, m => by
    have h := allF_cnt R b n (m + 1)
    rw [show n + 1 + m = n + (m + 1) by omega, ← h]
    show (((allF T n).flatMap fun e => (wsS (row T e.2).2).map fun w => (e.1 ++ [w.1], w.2)).map fun e => cnt T b m e.2).sum = _
    have : ∀ l : List Ent, ((l.flatMap fun e => (wsS (row T e.2).2).map fun w => ((e.1 ++ [w.1], w.2) : Ent)).map fun e => cnt T b m e.2).sum = (l.map fun e => cnt T b (m + 1) e.2).sum := by
      intro l
      induction l with
      | nil => rfl
      | cons e l ih =>
        rw [List.flatMap_cons, List.map_append, List.sum_append, ih, List.map_cons, List.sum_cons]
        congr 1
        rw [List.map_map]
        show ((wsS (row T e.2).2).map fun w => cnt T b m w.2).sum = ((row T e.2).2.map fun w => cnt T b m w.2).sum
        exact sum_perm ((wsS_perm (R.nds e.2)).map _)
    exact this _
theorem sum_filter {α : Type} (p : α → Bool) : ∀ l : List α, (l.map fun x => if p x = true then (1 : Int) else 0).sum = (((l.filter p).length : Nat) : Int)
  | [] => rfl
  | x :: l => by
    rw [List.map_cons, List.sum_cons, sum_filter p l, List.filter_cons]
    cases p x with
    | true => simp; omega
    | false => simp
theorem all_len {t : Tab} (T : TabOk t) (n : Nat) : ((allF t n).length : Int) = (cntN t false n).getD 0 0 := by
  have h0 := allF_cnt T false n 0
  rw [Nat.add_zero] at h0
  rw [cntN_at T false n 0 T.pos, ← h0]
  have : ((allF t n).map fun e => cnt t false 0 e.2) = (allF t n).map fun e => if (fun _ : Ent => true) e = true then (1 : Int) else 0 := List.map_congr_left fun e _ => by
    unfold cnt; simp
  rw [this, sum_filter, List.filter_eq_self.mpr fun _ _ => rfl]
theorem all_whole {t : Tab} (T : TabOk t) (n : Nat) : (((allF t n).filter fun e => (row t e.2).1).length : Int) = (cntN t true n).getD 0 0 := by
  have h0 := allF_cnt T true n 0
  rw [Nat.add_zero] at h0
  rw [cntN_at T true n 0 T.pos, ← h0]
  have : ((allF t n).map fun e => cnt t true 0 e.2) = (allF t n).map fun e => if (fun e : Ent => (row t e.2).1) e = true then (1 : Int) else 0 := List.map_congr_left fun e _ => by
    unfold cnt; simp
  rw [this, sum_filter]
/-! ### counts from the start on -/
/-- the sum of what goes on from each state, as often as it is come to -/
def dotP (c : List Int) (f : Nat → Int) : Int := ((List.range c.length).map fun i => c.getD i 0 * f i).sum
theorem dot_add (c : List Int) (f : Nat → Int) (g : Nat) (x : Int) (hg : g < c.length) : dotP (addAt c g x) f = dotP c f + x * f g := by
  unfold dotP
  rw [addAt_len]
  have key : ∀ n, n ≤ c.length → ((List.range n).map fun i => (addAt c g x).getD i 0 * f i).sum = ((List.range n).map fun i => c.getD i 0 * f i).sum + if g < n then x * f g else 0 := by
    intro n
    induction n with
    | zero => intro _; simp
    | succ n ih =>
      intro hn
      rw [List.range_succ, List.map_append, List.sum_append, List.map_append, List.sum_append, ih (by omega)]
      simp only [List.map_cons, List.map_nil, List.sum_cons, List.sum_nil]
      unfold addAt
      by_cases e : n = g
      · subst e
        have : (c.set n (c.getD n 0 + x)).getD n 0 = c.getD n 0 + x := by
          rw [List.getD_eq_getElem?_getD, List.getElem?_set_self (by omega)]; rfl
        rw [this, if_neg (by omega), if_pos (by omega), Int.add_mul]
        omega
      · have : (c.set g (c.getD g 0 + x)).getD n 0 = c.getD n 0 := by
          rw [List.getD_eq_getElem?_getD, List.getElem?_set_ne (fun z => e z.symm), List.getD_eq_getElem?_getD]
        rw [this]
        by_cases h : g < n
        · rw [if_pos h, if_pos (by omega)]; omega
        · rw [if_neg h, if_neg (by omega)]; omega
  rw [key c.length (Nat.le_refl _), if_pos hg]
theorem dot_adds (f : Nat → Int) (x : Int) : ∀ (l : List Way) (more : List Int), (∀ w ∈ l, w.2 < more.length) → dotP (l.foldl (fun m w => addAt m w.2 x) more) f = dotP more f + x * (l.map fun w => f w.2).sum
  | [], more, _ => by simp
  | w :: l, more, h => by
    show dotP (l.foldl _ (addAt more w.2 x)) f = _
    rw [dot_adds f x l _ (fun v hv => by rw [addAt_len]; exact h v (List.mem_cons_of_mem _ hv)), dot_add _ _ _ _ (h w List.mem_cons_self), List.map_cons, List.sum_cons, Int.mul_add]
    omega
theorem dot_rep (n : Nat) (f : Nat → Int) : dotP (List.replicate n 0) f = 0 := by
  unfold dotP
  rw [List.length_replicate]
  have : ((List.range n).map fun i => (List.replicate n (0 : Int)).getD i 0 * f i) = (List.range n).map fun _ => (0 : Int) := List.map_congr_left fun i hi => by
    have : (List.replicate n (0 : Int)).getD i 0 = 0 := by
      rw [List.getD_eq_getElem?_getD, List.getElem?_replicate]
      split <;> rfl
    rw [this, Int.zero_mul]
  rw [this]
  clear this
  induction n with
  | zero => rfl
  | succ n ih => rw [List.range_succ, List.map_append, List.sum_append, ih]; rfl
theorem dot_step {M : Tab} (R : TabOk M) (c : List Int) (hc : c.length = M.length) (f : Nat → Int) : dotP (stepV M c) f = dotP c fun i => ((row M i).2.map fun w => f w.2).sum := by
  unfold stepV
  have key : ∀ n, n ≤ M.length → dotP ((List.range n).foldl (addRow M c) (List.replicate M.length 0)) f = ((List.range n).map fun i => c.getD i 0 * ((row M i).2.map fun w => f w.2).sum).sum := by
    intro n
    induction n with
    | zero => intro _; exact dot_rep _ _
    | succ n ih =>
      intro hn
      rw [List.range_succ, List.foldl_append, List.map_append, List.sum_append, ← ih (by omega)]
      show dotP (addRow M c ((List.range n).foldl (addRow M c) (List.replicate M.length 0)) n) f = _
      unfold addRow
      rw [dot_adds f (c.getD n 0) (row M n).2 _ (fun w hw => by
        have := addRows_len M c (List.range n) (List.replicate M.length 0)
        unfold addRow at this
        rw [this, List.length_replicate]
        exact R.lts n w hw)]
      simp
  rw [key M.length (Nat.le_refl _)]
  unfold dotP
  rw [hc]
theorem dot_congr {c : List Int} {f g : Nat → Int} (h : ∀ i, i < c.length → f i = g i) : dotP c f = dotP c g := by
  unfold dotP
  congr 1
  exact List.map_congr_left fun i hi => by rw [h i (List.mem_range.mp hi)]
theorem dot_iter {M : Tab} (R : TabOk M) (b : Bool) : ∀ (n m : Nat), dotP (iterV M n) (cnt M b m) = cnt M b (n + m) 0
  | 0, m => by
    have h0 : iterV M 0 = addAt (List.replicate M.length 0) 0 1 := by
      unfold iterV addAt
      have : (List.replicate M.length (0 : Int)).getD 0 0 = 0 := by
        rw [List.getD_eq_getElem?_getD, List.getElem?_replicate]
        split <;> rfl
      rw [this]; rfl
    rw [h0, dot_add _ _ _ _ (by rw [List.length_replicate]; exact R.pos), dot_rep, Nat.zero_add]
    omega
  | n + 1, m => by
    show dotP (stepV M (iterV M n)) (cnt M b m) = _
    rw [dot_step R _ (iterV_len M n), show n + 1 + m = n + (m + 1) by omega, ← dot_iter R b n (m + 1)]
    rfl
theorem zip_sum (b : Bool) : ∀ (M : Tab) (c : List Int), c.length = M.length → (((c.zip M).filter fun p => p.2.1 || !b).map (·.1)).sum = dotP c fun i => if ((row M i).1 || !b) = true then 1 else 0
  | [], c, h => by
    have : c = [] := List.length_eq_zero_iff.mp h
    subst this; rfl
  | r :: M, [], h => by cases h
  | r :: M, x :: c, h => by
    have ih := zip_sum b M c (by simpa using h)
    have e : dotP (x :: c) (fun i => if ((row (r :: M) i).1 || !b) = true then (1 : Int) else 0) = x * (if (r.1 || !b) = true then 1 else 0) + dotP c fun i => if ((row M i).1 || !b) = true then 1 else 0 := by
      unfold dotP
      rw [List.length_cons, List.range_succ_eq_map, List.map_cons, List.sum_cons, List.map_map]
      rfl
    rw [e, ← ih, List.zip_cons_cons, List.filter_cons]
    cases z : (r.1 || !b) with
    | true => simp
    | false => simp
theorem countF_eq {M : Tab} (R : TabOk M) (n : Nat) (b : Bool) : countF M n b = cnt M b n 0 := by
  unfold countF
  rw [zip_sum b M _ (iterV_len M n)]
  exact dot_iter R b n 0
end K13

set_option Elab.async false
set_option linter.all false
set_option maxRecDepth 100000
set_option maxHeartbeats 1000000
/-! K13S: the told form goes as the rows go. -/
namespace K13
open PySem PySem.Spec PyProof.Rows L2 Zi K06
variable [Zi.Wd]
/-- come to from the start -/
inductive RS (t : Tab) : Nat → Prop
  | z : RS t 0
  | w {s : Nat} {w : Way} : RS t s → w ∈ (row t s).2 → RS t w.2
theorem RS.lt {t : Tab} (T : TabOk t) {s : Nat} (h : RS t s) : s < t.length := by
  cases h with
  | z => exact T.pos
  | w _ hw => exact T.lts _ _ hw
theorem RS.reach {t : Tab} (T : TabOk t) {s : Nat} (h : RS t s) : s ∈ reachF t := by
  induction h with
  | z => exact reachF_zero T
  | w _ hw ih => exact reachF_closed T ih ((wsS_perm (T.nds _)).mem_iff.mpr hw)
structure Hom (t t' : Tab) (f : Nat → Nat) : Prop where
  f0 : f 0 = 0
  en : ∀ s, RS t s → (row t' (f s)).1 = (row t s).1
  ws : ∀ s, RS t s → (row t' (f s)).2.Perm ((row t s).2.map fun w => (w.1, f w.2))
theorem Hom.rs {t t' : Tab} {f : Nat → Nat} (H : Hom t t' f) {s : Nat} (h : RS t s) : RS t' (f s) := by
  induction h with
  | z => rw [H.f0]; exact .z
  | @w s w hs hw ih =>
    have : (w.1, f w.2) ∈ (row t' (f s)).2 := (H.ws s hs).mem_iff.mpr (List.mem_map.mpr ⟨w, hw, rfl⟩)
    exact RS.w (w := (w.1, f w.2)) ih this
theorem Hom.comp {t t' t'' : Tab} {f g : Nat → Nat} (H : Hom t t' f) (G : Hom t' t'' g) : Hom t t'' fun s => g (f s) where
  f0 := by rw [H.f0, G.f0]
  en := fun s h => (G.en _ (H.rs h)).trans (H.en s h)
  ws := fun s h => by
    refine (G.ws _ (H.rs h)).trans ?_
    have := (H.ws s h).map fun w : Way => (w.1, g w.2)
    rw [List.map_map] at this
    exact this
theorem Hom.cnt {t t' : Tab} {f : Nat → Nat} (H : Hom t t' f) (b : Bool) : ∀ (n s : Nat), RS t s → K13.cnt t' b n (f s) = K13.cnt t b n s
  | 0, s, h => by
    unfold K13.cnt
    rw [H.en s h]
  | n + 1, s, h => by
    unfold K13.cnt
    have p := (H.ws s h).map fun w : Way => K13.cnt t' b n w.2
    rw [sum_perm p, List.map_map]
    congr 1
    exact List.map_congr_left fun w hw => H.cnt b n w.2 (.w h hw)
/-! ### by new numbers -/
theorem getD_idx {α : Type} [Inhabited α] {l : List Nat} {s : Nat} (f : Nat → α) (d : α) (h : s ∈ l) : (l.map f).getD (l.idxOf s) d = f s := by
  have hl := List.idxOf_lt_length_of_mem h
  rw [List.getD_eq_getElem?_getD, List.getElem?_map, List.getElem?_eq_getElem hl, List.getElem_idxOf]
  rfl
theorem hom_renum {t : Tab} (T : TabOk t) : Hom t (renumF t) fun s => (reachF t).idxOf s := by
  have hrow : ∀ s, s ∈ reachF t → row (renumF t) ((reachF t).idxOf s) = ((row t s).1, (wsS (row t s).2).map fun w => (w.1, (reachF t).idxOf w.2)) := fun s hs => by
    unfold renumF
    exact getD_idx (fun s => ((row t s).1, (wsS (row t s).2).map fun w => (w.1, (reachF t).idxOf w.2))) (false, []) hs
  refine ⟨?_, fun s h => ?_, fun s h => ?_⟩
  · obtain ⟨r, e⟩ := reach_pre t 0 t.length
    rw [Nat.zero_add] at e
    have e : reachF t = [0] ++ r := e
    rw [e]
    simp
  · rw [hrow s (h.reach T)]
  · rw [hrow s (h.reach T)]
    exact (wsS_perm (T.nds s)).map _
/-! ### by classes -/
def wsC (t : Tab) (c : List Nat) (i : Nat) : List Way := (wsS (row t i).2).map fun w => (w.1, c.getD w.2 0)
structure Stable (t : Tab) (c : List Nat) : Prop where
  ln : c.length = t.length
  en : ∀ i j, i < t.length → j < t.length → c.getD i 0 = c.getD j 0 → (row t i).1 = (row t j).1
  ws : ∀ i j, i < t.length → j < t.length → c.getD i 0 = c.getD j 0 → wsC t c i = wsC t c j
theorem map_same {c0 c : List Nat} {n : Nat} (h : ∀ a b, a < n → b < n → c0.getD a 0 = c0.getD b 0 → c.getD a 0 = c.getD b 0) : ∀ {l l' : List Way}, (∀ w ∈ l, w.2 < n) → (∀ w ∈ l', w.2 < n) → l.map (fun w => (w.1, c0.getD w.2 0)) = l'.map (fun w => (w.1, c0.getD w.2 0)) → l.map (fun w => (w.1, c.getD w.2 0)) = l'.map (fun w => (w.1, c.getD w.2 0))
  | [], [], _, _, _ => rfl
  | [], _ :: _, _, _, e => by cases e
  | _ :: _, [], _, _, e => by cases e
  | x :: l, y :: l', h1, h2, e => by
    rw [List.map_cons, List.map_cons] at e
    injection e with e1 e2
    injection e1 with e3 e4
    rw [List.map_cons, List.map_cons, map_same h (fun w hw => h1 w (List.mem_cons_of_mem _ hw)) (fun w hw => h2 w (List.mem_cons_of_mem _ hw)) e2, e3, h x.2 y.2 (h1 x List.mem_cons_self) (h2 y List.mem_cons_self) e4]
theorem dcnt_pos (v : Nat → Int) : ∀ n, 0 < n → 1 ≤ dcnt v n
  | 0, h => absurd h (Nat.lt_irrefl 0)
  | 1, _ => by
    rw [dcnt_succ, if_neg (fun ⟨j, hj, _⟩ => absurd hj (Nat.not_lt_zero j))]
    omega
  | n + 2, _ => by
    have := dcnt_pos v (n + 1) (by omega)
    rw [dcnt_succ]
    split <;> omega
theorem classI_stable {t : Tab} (T : TabOk t) : ∀ (m k : Nat) (c : List Nat), c.length = t.length → (∀ i j, i < t.length → j < t.length → c.getD i 0 = c.getD j 0 → (row t i).1 = (row t j).1) → t.length + 1 ≤ m + k → k ≤ distN c →
    (k = 0 ∨ ∃ c0 : List Nat, c0.length = t.length ∧ c = stepC t c0 ∧ distN c0 = k) → Stable t (classI t m k c)
  | 0, k, c, hl, _, h1, h2, _ => by
    have := distN_le c
    omega
  | m + 1, k, c, hl, en, h1, h2, h3 => by
    show Stable t (if k = distN c then c else classI t m (distN c) (stepC t c))
    by_cases z : k = distN c
    · rw [if_pos z]
      have pos : 1 ≤ distN c := by rw [distN_eq, hl]; exact dcnt_pos _ _ T.pos
      obtain ⟨c0, l0, rfl, e0⟩ := h3.resolve_left (by omega)
      have ref : ∀ a b, a < t.length → b < t.length → valN (stepC t c0) a = valN (stepC t c0) b → valN c0 a = valN c0 b := fun a b ha hb e => by
        unfold valN at e ⊢
        have := stepC_inj ha hb (Int.ofNat_inj.mp e)
        exact congrArg _ (congrArg Prod.fst this)
      have dq : dcnt (valN c0) t.length = dcnt (valN (stepC t c0)) t.length := by
        have d1 := distN_eq c0
        have d2 := distN_eq (stepC t c0)
        rw [l0] at d1
        rw [stepC_len] at d2
        rw [← d1, ← d2, e0, z]
      have back : ∀ a b, a < t.length → b < t.length → c0.getD a 0 = c0.getD b 0 → (stepC t c0).getD a 0 = (stepC t c0).getD b 0 := fun a b ha hb e => by
        have := dcnt_eq ref dq a b ha hb (by unfold valN; rw [e])
        exact Int.ofNat_inj.mp this
      refine ⟨hl, en, fun i j hi hj e => ?_⟩
      have ck := stepC_inj hi hj e
      have := congrArg Prod.snd ck
      exact map_same back (T.ltS i) (T.ltS j) this
    · rw [if_neg z]
      refine classI_stable T m (distN c) (stepC t c) (stepC_len t c) (fun i j hi hj e => ?_) (by omega) (stepC_mono hl) (.inr ⟨c, hl, rfl, rfl⟩)
      have ck := stepC_inj hi hj e
      exact en i j hi hj (congrArg Prod.fst ck)
theorem classF_stable {t : Tab} (T : TabOk t) : Stable t (classF t) := by
  refine classI_stable T _ 0 _ (List.length_map ..) (fun i j hi hj e => ?_) (Nat.le_refl _) (Nat.zero_le _) (.inl rfl)
  unfold endsF at e
  rw [List.getD_eq_getElem?_getD, List.getElem?_map, row_at hi, List.getD_eq_getElem?_getD, List.getElem?_map, row_at hj] at e
  have e : (if (row t i).1 = true then 1 else 0) = if (row t j).1 = true then 1 else 0 := e
  cases h1 : (row t i).1 <;> cases h2 : (row t j).1 <;> simp [h1, h2] at e ⊢
theorem hom_place {t : Tab} (T : TabOk t) {c : List Nat} (S : Stable t c) : Hom t (placeF (mergedF t c) (c.getD 0 0)) fun i => (orderF (mergedF t c) (c.getD 0 0)).idxOf (c.getD i 0) := by
  have M := merged_ok T c
  obtain ⟨a, b, d, e⟩ := merge_ok T c t.length (Nat.le_refl _)
  rw [← mergedF_eq] at a b d e
  have hrow : ∀ i, i < t.length → ∃ j, j < t.length ∧ c.getD j 0 = c.getD i 0 ∧ row (placeF (mergedF t c) (c.getD 0 0)) ((orderF (mergedF t c) (c.getD 0 0)).idxOf (c.getD i 0)) = ((row t j).1, (row t j).2.map fun w => (w.1, (orderF (mergedF t c) (c.getD 0 0)).idxOf (c.getD w.2 0))) := fun i hi => by
    have hm := d i hi
    obtain ⟨r, er, hr⟩ := look_mem hm
    obtain ⟨j, hj, ej⟩ := e _ hr
    injection ej with e1 e2
    refine ⟨j, hj, e1.symm, ?_⟩
    have ho := (order_mem (m := mergedF t c) (s := c.getD 0 0) (n := c.getD i 0) M.mem).mpr hm
    have := getD_idx (fun n => ((((lookA (mergedF t c) n).getD (false, [])).1, ((lookA (mergedF t c) n).getD (false, [])).2.map fun w => (w.1, (orderF (mergedF t c) (c.getD 0 0)).idxOf w.2)) : Row)) (false, []) ho
    refine (show row (placeF (mergedF t c) (c.getD 0 0)) _ = _ from this).trans ?_
    rw [er, e2]
    show (_, ((row t j).2.map fun w => (w.1, c.getD w.2 0)).map _) = _
    rw [List.map_map]
    rfl
  refine ⟨?_, fun i h => ?_, fun i h => ?_⟩
  · unfold orderF
    simp
  · obtain ⟨j, hj, ec, er⟩ := hrow i (h.lt T)
    rw [er]
    exact S.en j i hj (h.lt T) ec
  · obtain ⟨j, hj, ec, er⟩ := hrow i (h.lt T)
    rw [er]
    have hw := S.ws j i hj (h.lt T) ec
    have h1 := ((wsS_perm (T.nds j)).map fun w : Way => (w.1, (orderF (mergedF t c) (c.getD 0 0)).idxOf (c.getD w.2 0)))
    have h2 := ((wsS_perm (T.nds i)).map fun w : Way => (w.1, (orderF (mergedF t c) (c.getD 0 0)).idxOf (c.getD w.2 0)))
    have h3 : (wsS (row t j).2).map (fun w : Way => (w.1, (orderF (mergedF t c) (c.getD 0 0)).idxOf (c.getD w.2 0))) = (wsS (row t i).2).map (fun w : Way => (w.1, (orderF (mergedF t c) (c.getD 0 0)).idxOf (c.getD w.2 0))) := by
      have := congrArg (List.map fun w : Way => (w.1, (orderF (mergedF t c) (c.getD 0 0)).idxOf w.2)) hw
      unfold wsC at this
      rw [List.map_map, List.map_map] at this
      exact this
    exact h1.symm.trans ((List.Perm.of_eq h3).trans h2)
theorem hom_least {t : Tab} (T : TabOk t) : ∃ f, Hom t (leastF t) f := by
  have h1 := hom_renum T
  have T1 := renum_ok T
  have h2 := hom_place T1 (classF_stable T1)
  have T2 := place_ok (merged_ok T1 (classF (renumF t)))
  have h3 := hom_renum T2
  exact ⟨_, (h1.comp h2).comp h3⟩
theorem least_ok {t : Tab} (T : TabOk t) : TabOk (leastF t) := renum_ok (place_ok (merged_ok (renum_ok T) _))
theorem count_least {t : Tab} (T : TabOk t) (n : Nat) (b : Bool) : countF (leastF t) n b = (cntN t b n).getD 0 0 := by
  obtain ⟨f, H⟩ := hom_least T
  rw [countF_eq (least_ok T), cntN_at T b n 0 T.pos]
  have := H.cnt b n 0 .z
  rwa [H.f0] at this
end K13

set_option Elab.async false
set_option linter.all false
set_option maxRecDepth 100000
set_option maxHeartbeats 1000000
/-! K13T: the shortest history, the first in order. -/
namespace K13
open PySem PySem.Spec PyProof.Rows L2 Zi K06
open PySem.W (dataLe dataLt)
variable [Zi.Wd]
/-! ### runs -/
def run (T : Tab) : Nat → Hist → Option Nat
  | s, [] => some s
  | s, e :: h => match lookA (row T s).2 e with
    | some m => run T m h
    | none => none
theorem run_snoc (T : Tab) (e : Exch) : ∀ (h : Hist) (s : Nat), run T s (h ++ [e]) = (run T s h).bind fun m => lookA (row T m).2 e
  | [], s => by
    show (match lookA (row T s).2 e with | some m => run T m [] | none => none) = lookA (row T s).2 e
    cases lookA (row T s).2 e <;> rfl
  | x :: h, s => by
    show (match lookA (row T s).2 x with | some m => run T m (h ++ [e]) | none => none) = (match lookA (row T s).2 x with | some m => run T m h | none => none).bind _
    cases lookA (row T s).2 x with
    | none => rfl
    | some m => exact run_snoc T e h m
def Whole (T : Tab) (h : Hist) : Prop := ∃ s, run T 0 h = some s ∧ (row T s).1 = true
theorem look_perm {l l' : List Way} (nd : (l.map (·.1)).Nodup) (p : l.Perm l') (e : Exch) : lookA l e = lookA l' e := by
  have nd' : (l'.map (·.1)).Nodup := ((p.map (·.1)).nodup_iff).mp nd
  cases z : lookA l e with
  | some v => exact (lookA_of nd' (p.mem_iff.mp (lookA_mem z))).symm
  | none =>
    cases z' : lookA l' e with
    | none => rfl
    | some v =>
      have := lookA_of nd (p.mem_iff.mpr (lookA_mem z'))
      rw [z] at this; cases this
theorem look_map (f : Nat → Nat) (e : Exch) : ∀ l : List Way, lookA (l.map fun w => (w.1, f w.2)) e = (lookA l e).map f
  | [] => rfl
  | w :: l => by
    show (if w.1 = e then some (f w.2) else lookA (l.map fun w => (w.1, f w.2)) e) = (if w.1 = e then some w.2 else lookA l e).map f
    split
    · rfl
    · exact look_map f e l
theorem Hom.run {t t' : Tab} (T : TabOk t) {f : Nat → Nat} (H : Hom t t' f) : ∀ (h : Hist) (s : Nat), RS t s → K13.run t' (f s) h = (K13.run t s h).map f
  | [], s, _ => rfl
  | e :: h, s, r => by
    have p := H.ws s r
    have nd : (((row t s).2.map fun w => ((w.1, f w.2) : Way)).map (·.1)).Nodup := by
      rw [List.map_map]
      exact T.nds s
    have l1 := look_perm (((p.map (·.1)).nodup_iff).mpr nd) p e
    show (match lookA (row t' (f s)).2 e with | some m => K13.run t' m h | none => none) = (match lookA (row t s).2 e with | some m => K13.run t m h | none => none).map f
    rw [l1, look_map]
    cases z : lookA (row t s).2 e with
    | none => rfl
    | some m =>
      have := lookA_mem z
      exact Hom.run T H h m (RS.w (w := (e, m)) r this)
theorem run_rs {t : Tab} : ∀ (h : Hist) (s : Nat), RS t s → ∀ m, run t s h = some m → RS t m
  | [], s, r, m, e => by cases e; exact r
  | x :: h, s, r, m, e => by
    have e : (match lookA (row t s).2 x with | some m => run t m h | none => none) = some m := e
    cases z : lookA (row t s).2 x with
    | none => rw [z] at e; cases e
    | some k =>
      rw [z] at e
      exact run_rs h k (RS.w (w := (x, k)) r (lookA_mem z)) m e
theorem Hom.whole {t t' : Tab} (T : TabOk t) {f : Nat → Nat} (H : Hom t t' f) (h : Hist) : Whole t' h ↔ Whole t h := by
  have e := H.run T h 0 .z
  rw [H.f0] at e
  unfold Whole
  constructor
  · rintro ⟨s, hs, w⟩
    rw [e] at hs
    cases z : K13.run t 0 h with
    | none => rw [z] at hs; cases hs
    | some m =>
      rw [z] at hs
      cases hs
      exact ⟨m, rfl, by rw [← H.en m (run_rs h 0 .z m z)]; exact w⟩
  · rintro ⟨s, hs, w⟩
    exact ⟨f s, by rw [e, hs]; rfl, by rw [H.en s (run_rs h 0 .z s hs)]; exact w⟩
/-! ### the order -/
theorem llt_snoc : ∀ (a b : Hist) (x y : Exch), a.length = b.length → llt (a ++ [x]) (b ++ [y]) = if a = b then lt x y else llt a b
  | [], [], x, y, _ => by
    show llt [x] [y] = _
    rw [llt_cons, if_pos rfl]
    by_cases e : x = y
    · rw [if_pos e, e, lt_irrefl, llt_irrefl]
    · rw [if_neg e]
  | [], _ :: _, _, _, h => by cases h
  | _ :: _, [], _, _, h => by cases h
  | u :: a, v :: b, x, y, h => by
    rw [List.cons_append, List.cons_append, llt_cons, llt_cons, llt_snoc a b x y (by simpa using h)]
    by_cases e : u = v
    · rw [if_pos e, if_pos e]
      by_cases e2 : a = b
      · rw [if_pos e2, if_pos (by rw [e, e2])]
      · rw [if_neg e2, if_neg (fun z => e2 (by injection z))]
    · rw [if_neg e, if_neg e, if_neg (fun z => e (by injection z))]
theorem llt_total : ∀ {a b : Hist}, a.length = b.length → llt a b = false → llt b a = false → a = b
  | [], [], _, _, _ => rfl
  | [], _ :: _, h, _, _ => by cases h
  | _ :: _, [], h, _, _ => by cases h
  | x :: a, y :: b, h, h1, h2 => by
    rw [llt_cons] at h1 h2
    by_cases e : x = y
    · rw [if_pos e] at h1
      rw [if_pos e.symm] at h2
      rw [e, llt_total (by simpa using h) h1 h2]
    · rw [if_neg e] at h1
      rw [if_neg (fun z => e z.symm)] at h2
      exact absurd (lt_total h1 h2) e
/-- not behind: shorter, or as long and not later in order -/
def leH (a b : Hist) : Prop := a.length < b.length ∨ (a.length = b.length ∧ llt b a = false)
theorem leH_refl (a : Hist) : leH a a := .inr ⟨rfl, llt_irrefl a⟩
theorem leH_len {a b : Hist} (h : leH a b) : a.length ≤ b.length := by
  rcases h with h | h <;> omega
theorem leH_trans {a b c : Hist} (h : leH a b) (k : leH b c) : leH a c := by
  rcases h with h | ⟨h1, h2⟩
  · exact .inl (Nat.lt_of_lt_of_le h (leH_len k))
  · rcases k with k | ⟨k1, k2⟩
    · exact .inl (by omega)
    · refine .inr ⟨by omega, ?_⟩
      cases z : llt c a with
      | false => rfl
      | true =>
        cases y : llt a b with
        | true => rw [llt_trans z y] at k2; cases k2
        | false =>
          have := llt_total h1 y h2
          rw [this] at z
          rw [z] at k2; cases k2
theorem leH_antisymm {a b : Hist} (h : leH a b) (k : leH b a) : a = b := by
  rcases h with h | ⟨h1, h2⟩
  · have := leH_len k; omega
  · rcases k with k | ⟨k1, k2⟩
    · omega
    · exact llt_total h1 k2 h2
theorem leH_snoc {a b : Hist} (e : Exch) (h : leH a b) : leH (a ++ [e]) (b ++ [e]) := by
  rcases h with h | ⟨h1, h2⟩
  · exact .inl (by simp; omega)
  · refine .inr ⟨by simp [h1], ?_⟩
    rw [llt_snoc _ _ _ _ h1.symm]
    split
    · exact lt_irrefl e
    · exact h2
theorem leH_snoc2 {a b : Hist} (x y : Exch) (h : leH a b) (ne : a ≠ b) : leH (a ++ [x]) (b ++ [y]) := by
  rcases h with h | ⟨h1, h2⟩
  · exact .inl (by simp; omega)
  · refine .inr ⟨by simp [h1], ?_⟩
    rw [llt_snoc _ _ _ _ h1.symm, if_neg (fun z => ne z.symm)]
    exact h2
def Least (T : Tab) : Option Hist → Prop
  | none => ∀ g, ¬ Whole T g
  | some h => Whole T h ∧ ∀ g, Whole T g → leH h g
theorem Least.uniq {T : Tab} {r r' : Option Hist} (h : Least T r) (h' : Least T r') : r = r' := by
  cases r with
  | none =>
    cases r' with
    | none => rfl
    | some g => exact absurd h'.1 (h g)
  | some g =>
    cases r' with
    | none => exact absurd h.1 (h' g)
    | some g' => rw [leH_antisymm (h.2 g' h'.1) (h'.2 g h.1)]
theorem Least.of_whole {T T' : Tab} (e : ∀ h, Whole T h ↔ Whole T' h) {r : Option Hist} (h : Least T r) : Least T' r := by
  cases r with
  | none => exact fun g hg => h g ((e g).mpr hg)
  | some g => exact ⟨(e g).mp h.1, fun g' hg => h.2 g' ((e g').mpr hg)⟩
end K13

set_option Elab.async false
set_option linter.all false
set_option maxRecDepth 100000
set_option maxHeartbeats 1000000
/-! K13U: what is found first is the least. -/
namespace K13
open PySem PySem.Spec PyProof.Rows L2 Zi K06
open PySem.W (dataLe dataLt)
variable [Zi.Wd]
def SortedT (S : Tab) : Prop := ∀ s, (row S s).2.Pairwise fun w w' => lt w'.1 w.1 = false
structure Bfs (S : Tab) (k : Nat) (acc : List Ent) : Prop where
  rn : ∀ x ∈ acc, run S 0 x.1 = some x.2
  srt : acc.Pairwise fun x y => leH x.1 y.1
  par : ∀ x ∈ acc, x.1 = [] ∨ ∃ (j : Nat) (y : Ent) (e : Exch), j < k ∧ acc[j]? = some y ∧ x.1 = y.1 ++ [e]
  cl : ∀ (i : Nat) (y : Ent), i < k → acc[i]? = some y → ∀ w ∈ (row S y.2).2, ∃ x ∈ acc, x.2 = w.2 ∧ leH x.1 (y.1 ++ [w.1])
  hd : acc[0]? = some ([], 0)
structure Inn (S : Tab) (acc : List Ent) (y : Ent) (l1 : List Way) (acc1 : List Ent) : Prop where
  pre : ∃ r, acc1 = acc ++ r
  rn : ∀ x ∈ acc1, run S 0 x.1 = some x.2
  srt : acc1.Pairwise fun x y => leH x.1 y.1
  fr : ∀ x ∈ acc1, x ∈ acc ∨ ∃ w ∈ l1, x.1 = y.1 ++ [w.1]
  cl : ∀ w ∈ l1, ∃ x ∈ acc1, x.2 = w.2 ∧ leH x.1 (y.1 ++ [w.1])
theorem pw_at {α : Type} {R : α → α → Prop} {l : List α} (p : l.Pairwise R) {i j : Nat} {x y : α} (hij : i < j) (hx : l[i]? = some x) (hy : l[j]? = some y) : R x y := by
  obtain ⟨hi, rfl⟩ := List.getElem?_eq_some_iff.mp hx
  obtain ⟨hj, rfl⟩ := List.getElem?_eq_some_iff.mp hy
  exact List.pairwise_iff_getElem.mp p i j hi hj hij
theorem inn_step {S : Tab} {k : Nat} {acc : List Ent} {y : Ent} (T : TabOk S) (B : Bfs S k acc) (hy : acc[k]? = some y) (nd : (acc.map (·.2)).Nodup) {l1 l2 : List Way} {w : Way} (hl : (row S y.2).2 = l1 ++ w :: l2) (hS : (row S y.2).2.Pairwise fun w w' => lt w'.1 w.1 = false) {acc1 : List Ent} (I : Inn S acc y l1 acc1) :
    Inn S acc y (l1 ++ [w]) (addA y.1 acc1 w) := by
  have ym : y ∈ acc := List.mem_of_getElem? hy
  have U : ∀ x ∈ acc1, leH x.1 (y.1 ++ [w.1]) := fun x hx => by
    rcases I.fr x hx with h | ⟨w', hw', e⟩
    · rcases B.par x h with e | ⟨j, y', e, hj, hy', ex⟩
      · rw [e]; exact .inl (by simp)
      · rw [ex]
        refine leH_snoc2 _ _ (pw_at B.srt hj hy' hy) fun z => ?_
        have r1 := B.rn y' (List.mem_of_getElem? hy')
        have r2 := B.rn y ym
        rw [z, r2] at r1
        have hs : y.2 = y'.2 := Option.some.inj r1
        have hjl : j < (acc.map (·.2)).length := by rw [List.length_map]; exact (List.getElem?_eq_some_iff.mp hy').1
        have := (List.getElem?_inj (j := k) hjl nd).mp (by rw [List.getElem?_map, List.getElem?_map, hy', hy]; show some y'.2 = some y.2; rw [hs])
        omega
    · rw [e]
      refine .inr ⟨by simp, ?_⟩
      rw [llt_snoc _ _ _ _ rfl, if_pos rfl]
      rw [hl, List.pairwise_append] at hS
      exact hS.2.2 w' hw' w List.mem_cons_self
  have hw : w ∈ (row S y.2).2 := by rw [hl]; simp
  have rw_ : run S 0 (y.1 ++ [w.1]) = some w.2 := by
    rw [run_snoc, B.rn y ym]
    exact lookA_of (T.nds y.2) hw
  unfold addA
  split
  · rename_i hm
    refine ⟨I.pre, I.rn, I.srt, fun x hx => ?_, fun v hv => ?_⟩
    · rcases I.fr x hx with h | ⟨w', hw', e⟩
      · exact .inl h
      · exact .inr ⟨w', List.mem_append_left _ hw', e⟩
    · rcases List.mem_append.mp hv with hv | hv
      · exact I.cl v hv
      · rw [List.mem_singleton.mp hv]
        obtain ⟨x, hx, ex⟩ := List.mem_map.mp hm
        exact ⟨x, hx, ex, U x hx⟩
  · obtain ⟨r, er⟩ := I.pre
    refine ⟨⟨r ++ [(y.1 ++ [w.1], w.2)], by rw [er, List.append_assoc]⟩, fun x hx => ?_, ?_, fun x hx => ?_, fun v hv => ?_⟩
    · rcases List.mem_append.mp hx with hx | hx
      · exact I.rn x hx
      · rw [List.mem_singleton.mp hx]; exact rw_
    · refine List.pairwise_append.mpr ⟨I.srt, by simp, fun a ha b hb => ?_⟩
      rw [List.mem_singleton.mp hb]; exact U a ha
    · rcases List.mem_append.mp hx with hx | hx
      · rcases I.fr x hx with h | ⟨w', hw', e⟩
        · exact .inl h
        · exact .inr ⟨w', List.mem_append_left _ hw', e⟩
      · rw [List.mem_singleton.mp hx]; exact .inr ⟨w, by simp, rfl⟩
    · rcases List.mem_append.mp hv with hv | hv
      · obtain ⟨x, hx, e⟩ := I.cl v hv
        exact ⟨x, List.mem_append_left _ hx, e⟩
      · rw [List.mem_singleton.mp hv]
        exact ⟨_, List.mem_append_right _ List.mem_cons_self, rfl, leH_refl _⟩
theorem inn_all {S : Tab} {k : Nat} {acc : List Ent} {y : Ent} (T : TabOk S) (B : Bfs S k acc) (hy : acc[k]? = some y) (nd : (acc.map (·.2)).Nodup) (hS : (row S y.2).2.Pairwise fun w w' => lt w'.1 w.1 = false) : ∀ (l2 l1 : List Way) (acc1 : List Ent), (row S y.2).2 = l1 ++ l2 → Inn S acc y l1 acc1 → Inn S acc y (row S y.2).2 (l2.foldl (addA y.1) acc1)
  | [], l1, acc1, e, I => by rw [List.append_nil] at e; rw [e]; exact I
  | w :: l2, l1, acc1, e, I => by
    refine inn_all T B hy nd hS l2 (l1 ++ [w]) (addA y.1 acc1 w) (by rw [e, List.append_assoc]; rfl) (inn_step T B hy nd e hS I)
theorem bfs_step {S : Tab} {k : Nat} {acc : List Ent} {y : Ent} (T : TabOk S) (hS : SortedT S) (B : Bfs S k acc) (hy : acc[k]? = some y) (nd : (acc.map (·.2)).Nodup) : Bfs S (k + 1) (stepA S acc y) := by
  have I := inn_all T B hy nd (hS y.2) (row S y.2).2 [] acc rfl ⟨⟨[], by simp⟩, B.rn, B.srt, fun x hx => .inl hx, fun w hw => nomatch hw⟩
  show Bfs S (k + 1) ((row S y.2).2.foldl (addA y.1) acc)
  generalize (row S y.2).2.foldl (addA y.1) acc = acc1 at *
  obtain ⟨r, er⟩ := I.pre
  have kl : k < acc.length := (List.getElem?_eq_some_iff.mp hy).1
  have get : ∀ i, i < acc.length → acc1[i]? = acc[i]? := fun i hi => by rw [er, List.getElem?_append_left hi]
  refine ⟨I.rn, I.srt, fun x hx => ?_, fun i z hi hz w hw => ?_, ?_⟩
  · rcases I.fr x hx with h | ⟨w, _, e⟩
    · rcases B.par x h with e | ⟨j, y', e, hj, hy', ex⟩
      · exact .inl e
      · exact .inr ⟨j, y', e, by omega, by rw [get j (by omega)]; exact hy', ex⟩
    · exact .inr ⟨k, y, w.1, by omega, by rw [get k kl]; exact hy, e⟩
  · by_cases h : i < k
    · rw [get i (by omega)] at hz
      obtain ⟨x, hx, e⟩ := B.cl i z h hz w hw
      exact ⟨x, by rw [er]; exact List.mem_append_left _ hx, e⟩
    · have : i = k := by omega
      subst this
      rw [get i kl, hy] at hz
      cases hz
      exact I.cl w hw
  · rw [get 0 (by omega)]; exact B.hd
theorem bfs_all {S : Tab} (T : TabOk S) (hS : SortedT S) : ∀ k, Bfs S k (accN S k)
  | 0 => ⟨fun x hx => by rw [List.mem_singleton.mp hx]; rfl, by simp [accN], fun x hx => by rw [List.mem_singleton.mp hx]; exact .inl rfl, fun i y hi => absurd hi (Nat.not_lt_zero _), rfl⟩
  | k + 1 => by
    have B := bfs_all T hS k
    show Bfs S (k + 1) (match (accN S k)[k]? with | some e => stepA S (accN S k) e | none => accN S k)
    cases z : (accN S k)[k]? with
    | some y => exact bfs_step T hS B z (accN_ok T k).1
    | none =>
      refine ⟨B.rn, B.srt, fun x hx => ?_, fun i y hi hy => ?_, B.hd⟩
      · rcases B.par x hx with e | ⟨j, y', e, hj, r⟩
        · exact .inl e
        · exact .inr ⟨j, y', e, by omega, r⟩
      · by_cases h : i < k
        · exact B.cl i y h hy
        · have : i = k := by omega
          subst this
          rw [z] at hy; cases hy
/-- each history is matched, or goes on from what was not yet gone on from -/
theorem bfs_reach {S : Tab} {k : Nat} {acc : List Ent} (B : Bfs S k acc) : ∀ (n : Nat) (g : Hist), g.length = n → ∀ s, run S 0 g = some s → (∃ (i : Nat) (x : Ent), acc[i]? = some x ∧ x.2 = s ∧ leH x.1 g) ∨ ∃ (i : Nat) (x : Ent), k ≤ i ∧ acc[i]? = some x ∧ x.1.length < g.length
  | 0, g, hg, s, h => by
    have : g = [] := List.length_eq_zero_iff.mp hg
    subst this
    cases h
    exact .inl ⟨0, _, B.hd, rfl, leH_refl _⟩
  | n + 1, g, hg, s, h => by
    have hne : g ≠ [] := fun e => by rw [e] at hg; cases hg
    obtain ⟨g', e, rfl⟩ : ∃ g' e, g = g' ++ [e] := ⟨g.dropLast, g.getLast hne, (List.dropLast_concat_getLast hne).symm⟩
    have hg' : g'.length = n := by simpa using hg
    rw [run_snoc] at h
    cases z : run S 0 g' with
    | none => rw [z] at h; cases h
    | some m =>
      rw [z] at h
      have h : lookA (row S m).2 e = some s := h
      rcases bfs_reach B n g' hg' m z with ⟨i, x, hx, ex, hle⟩ | ⟨i, x, hi, hx, hlt⟩
      · by_cases hik : i < k
        · obtain ⟨x2, hx2, e2, l2⟩ := B.cl i x hik hx (e, s) (by rw [ex]; exact lookA_mem h)
          obtain ⟨i2, hi2, ei2⟩ := List.getElem_of_mem hx2
          exact .inl ⟨i2, x2, by rw [List.getElem?_eq_getElem hi2, ei2], e2, leH_trans l2 (leH_snoc e hle)⟩
        · refine .inr ⟨i, x, by omega, hx, ?_⟩
          have := leH_len hle
          rw [List.length_append, List.length_singleton]; omega
      · exact .inr ⟨i, x, hi, hx, by rw [List.length_append, List.length_singleton]; omega⟩
theorem none_least {S : Tab} (T : TabOk S) (hS : SortedT S) (h : ∀ e ∈ accF S, (row S e.2).1 = false) : Least S none := by
  have B := bfs_all T hS S.length
  have hl := accN_len T S.length
  rintro g ⟨s, hs, w⟩
  rcases bfs_reach B g.length g rfl s hs with ⟨i, x, hx, rfl, _⟩ | ⟨i, x, hi, hx, _⟩
  · rw [h x (List.mem_of_getElem? hx)] at w; cases w
  · have := (List.getElem?_eq_some_iff.mp hx).1
    omega
theorem some_least {S : Tab} (T : TabOk S) (hS : SortedT S) {k : Nat} {h : Hist} (no : ∀ i x, i < k → (accN S k)[i]? = some x → (row S x.2).1 = false) (hw : ∃ e ∈ accN S k, e.1 = h ∧ (row S e.2).1 = true)
    (hm : ∀ i x, k ≤ i → (accN S k)[i]? = some x → ((row S x.2).1 = true → leH h x.1) ∧ h.length ≤ x.1.length) : Least S (some h) := by
  have B := bfs_all T hS k
  obtain ⟨e, he, rfl, ew⟩ := hw
  refine ⟨⟨e.2, B.rn e he, ew⟩, ?_⟩
  rintro g ⟨s, hs, w⟩
  rcases bfs_reach B g.length g rfl s hs with ⟨i, x, hx, rfl, hle⟩ | ⟨i, x, hi, hx, hlt⟩
  · by_cases hik : i < k
    · rw [no i x hik hx] at w; cases w
    · exact leH_trans ((hm i x (by omega) hx).1 w) hle
  · exact .inl (by have := (hm i x hi hx).2; omega)
theorem first_least {S : Tab} (T : TabOk S) (hS : SortedT S) {r : Option Hist} (h : FirstR S r) : Least S r := by
  cases r with
  | none => exact none_least T hS h
  | some g =>
    obtain ⟨k, hk, no, ⟨e, he, ex, ew⟩, hmin, hlen⟩ := h
    refine some_least T hS no ⟨e, List.mem_of_mem_drop he, ex, ew⟩ fun i x hi hx => ?_
    have hd : x ∈ (accN S k).drop k := List.mem_of_getElem? (i := i - k) (by rw [List.getElem?_drop, show k + (i - k) = i by omega]; exact hx)
    exact ⟨fun w => .inr ⟨(hlen x hd).symm, hmin x hd w⟩, by rw [hlen x hd]; exact Nat.le_refl _⟩
theorem short_is {M : Tab} (T : TabOk M) (hS : SortedT M) : Least M (shortF M true) := by
  cases z : (accF M).find? (fun e => (row M e.2).1 || !true) with
  | none =>
    have : shortF M true = none := by unfold shortF; rw [z]; rfl
    rw [this]
    refine none_least T hS fun e he => ?_
    have := List.find?_eq_none.mp z e he
    simpa using this
  | some e =>
    have : shortF M true = some e.1 := by unfold shortF; rw [z]; rfl
    rw [this]
    have hw : (row M e.2).1 = true := by simpa using List.find?_some z
    obtain ⟨_, as, bs, hab, hno⟩ := List.find?_eq_some_iff_append.mp z
    have hab : accN M M.length = as ++ e :: bs := hab
    have hl := accN_len T M.length
    have hal : as.length < M.length := by rw [hab, List.length_append, List.length_cons] at hl; omega
    obtain ⟨r, er⟩ := accF_pre (M := M) (k := as.length) (Nat.le_of_lt hal)
    have er : accN M M.length = accN M as.length ++ r := er
    have hlen : as.length < (accN M as.length).length := by
      apply Classical.byContradiction
      intro h
      have := accF_eq (M := M) (k := as.length) (by omega) (Nat.le_of_lt hal)
      have this : accN M M.length = accN M as.length := this
      rw [this] at hab
      have := congrArg List.length hab
      rw [List.length_append, List.length_cons] at this
      omega
    have get : ∀ i, i < (accN M as.length).length → (accN M as.length)[i]? = (as ++ e :: bs)[i]? := fun i hi => by
      rw [← hab, er, List.getElem?_append_left hi]
    have hek : (accN M as.length)[as.length]? = some e := by rw [get _ hlen]; simp
    have B := bfs_all T hS as.length
    refine some_least T hS (k := as.length) (fun i x hi hx => ?_) ⟨e, List.mem_of_getElem? hek, rfl, hw⟩ fun i x hi hx => ?_
    · rw [get i (by omega), List.getElem?_append_left hi] at hx
      have := hno x (List.mem_of_getElem? hx)
      simpa using this
    · have hle : leH e.1 x.1 := by
        by_cases z : i = as.length
        · subst z; rw [hek] at hx; cases hx; exact leH_refl _
        · exact pw_at B.srt (by omega) hek hx
      exact ⟨fun _ => hle, leH_len hle⟩
end K13

set_option Elab.async false
set_option linter.all false
set_option maxRecDepth 100000
set_option maxHeartbeats 1000000
/-! K13L: the told form shortens as the rows do. -/
namespace K13
open PySem PySem.Spec PyProof.Rows L2 Zi K06
open PySem.W (minD AlikeAll)
variable [Zi.Wd]
theorem sortE_sorted (es : List Exch) : (sortE es).Pairwise fun a b => lt b a = false := by
  have tl := PySem.W.sortLe_total (PyProof.Rows.listOrd PyProof.Rows.itemOrd) false fun e : Exch => PySem.W.keyToks (py (exD e))
  have := List.pairwise_mergeSort (le := fun a b => PySem.W.dataLe false py (exD a) (exD b)) (fun a b c h1 h2 => tl.trans a b c h1 h2) (fun a b => by
    rcases tl.total a b with h | h
    · exact (Bool.or_eq_true _ _).mpr (.inl h)
    · exact (Bool.or_eq_true _ _).mpr (.inr h)) es
  refine this.imp fun {a b} h => ?_
  have h : (!lt b a) = true := h
  simpa using h
theorem wsS_sorted (ws : List Way) : (wsS ws).Pairwise fun w w' => lt w'.1 w.1 = false := by
  rw [wsS_eq, List.pairwise_map]
  exact sortE_sorted _
theorem row_out {t : Tab} {s : Nat} (h : t.length ≤ s) : row t s = (false, []) := by
  unfold row
  rw [List.getD_eq_getElem?_getD, List.getElem?_eq_none h]; rfl
theorem sorted_sortT (t : Tab) : SortedT (sortT t) := fun s => by
  rw [row_sortT]
  exact wsS_sorted _
theorem sorted_renum (t : Tab) : SortedT (renumF t) := fun s => by
  by_cases h : s < (renumF t).length
  · have hm := row_mem h
    obtain ⟨x, hx, e⟩ := List.mem_map.mp hm
    rw [← e]
    show ((wsS (row t x).2).map fun w => ((w.1, (reachF t).idxOf w.2) : Way)).Pairwise _
    rw [List.pairwise_map]
    exact wsS_sorted _
  · rw [row_out (by omega)]
    exact List.Pairwise.nil
theorem hom_sort {t : Tab} (T : TabOk t) : Hom t (sortT t) fun s => s := by
  refine ⟨rfl, fun s h => by rw [row_sortT], fun s h => ?_⟩
  rw [row_sortT]
  have : ((row t s).2.map fun w => ((w.1, w.2) : Way)) = (row t s).2 := List.map_id _
  rw [this]
  exact wsS_perm (T.nds s)
theorem short_least {t : Tab} (T : TabOk t) {r : Option Hist} (h : FirstR (sortT t) r) : shortF (leastF t) true = r := by
  obtain ⟨f, H⟩ := hom_least T
  have l1 := short_is (least_ok T) (sorted_renum _)
  have l2 := first_least (sortT_ok T) (sorted_sortT t) h
  have l3 : Least t (shortF (leastF t) true) := l1.of_whole fun g => H.whole T g
  have l4 : Least t r := l2.of_whole fun g => (hom_sort T).whole T g
  exact l3.uniq l4
theorem short_any {M : Tab} (T : TabOk M) : shortF M false = some [] := by
  obtain ⟨r, e⟩ := accF_pre (M := M) (k := 0) (Nat.zero_le _)
  unfold shortF
  rw [e]
  show (([(([], 0) : Ent)] ++ r).find? fun e => (row M e.2).1 || !false).map (·.1) = _
  rw [List.singleton_append, List.find?_cons]
  simp
theorem short_len {M : Tab} (T : TabOk M) {b : Bool} {h : Hist} (e : shortF M b = some h) : h.length ≤ 400 := by
  unfold shortF at e
  obtain ⟨x, hx, rfl⟩ := Option.map_eq_some_iff.mp e
  have := accN_hist M M.length x (List.mem_of_find?_eq_some hx)
  exact Nat.le_trans this T.few
end K13

set_option Elab.async false
set_option linter.all false
set_option maxRecDepth 100000
set_option maxHeartbeats 400000
set_option pp.deepTerms false
set_option pp.maxSteps 400
namespace K13
open PySem PySem.Spec PyProof.Rows L2 Ly Zi Zs Lc K06
open PySem.W (minD AlikeAll)
local macro_rules | `(tactic| walk_at "z") => `(tactic| simp (config := { dsimp := false }) only [aSeq, aIf, aT, aYes, aAnd, aOr, aNot, aOp, aOpL, aUn, aVar, aC, aRaw, aMove, pk, q_peek_w, q_peek_s, q_peekW_d, q_peekW_loc, q_cellD_lst, q_cellD_dic, ↓q_toW_w, q_toW_w, ↓q_toW_s, q_toW_s, ↓q_toL_w, q_toL_w, ↓q_toL_s, q_toL_s, ↓q_nToW_w, q_nToW_w, ↓q_nToW_lst, q_nToW_lst, ↓q_nToW_dic, q_nToW_dic, q_put_w, q_put_n, q_getC_loc, q_getC_s, q_putC_loc, q_putC_s, aFz, aN, aAsg, aAsgT, q_bind_nm, q_bind_tp, q_binds_nil, q_binds_cons, aRet, aRetN, aDrop, aDropN, aNext, aBreak, aCont, aAug, aSetIx, aDPut, aCall, aCons, aConsL, aNil, aLst, aTup, lstC, wsD, rCons, rNil, pks, aCB, aCBL, aBM, aBM0, isL, mAppend, mPop, mPopAt,
  aSlL, aSlT, aRevL, aNo, aSome, aAndV, aOrV, aNotV, aIfE, aChain, aDIn, aDGet, aDNew, withDic, Zi.keyOf, cut2, part32, eqD_str, inD2, all_str2, aFor, aForE, comesBack, aLc, aSortSet, aPutS, aCl, aIL, aIT, aIR1, aIR2, aIE, aIZ, aIS, wipeE, backE,
  q_cellD_dit, q_nToW_dit, q_key_int, aXGet, aXIn, aXGet1, aXNew, aXPut, aXSetd, withX, bXLen, aIXK, aIXI, aXDict, aXOne, aXDc, aXEmit, aNLen, aNEmit, aFld, aSetF, aMake, aAugS, bAll, bAny, bSum, bInt, aTupOf, aLenSet, oRep, aCallD, aCallN, aTupW, aIxW, aAsgW, eqI2, eqI3, aLenW, aDead, bLenS, aConsN, nToL, w0s, bindWs, W0.w, oAdd, oSub, oMul, oMulW, oMod, oDiv, oDivW, oPow, oLt, oLe, oGt, oGe, oI, oIc, oEq, oNe, oIn, oIx, oCat, oAddS, oInS, oIs, oIsNot, oIsB, oIsNB, Zi.isNon, oNeg, oBits, bLen, bList, bMax2, bMin2, bMin, aIsi, aSetSl, tyN, kit_NoneType_bool, kit_NoneType_int, kit_NoneType_str, kit_NoneType_list, kit_NoneType_tuple, kit_NoneType_dict, kit_bool_bool, kit_bool_int, kit_bool_str, kit_bool_list, kit_bool_tuple, kit_bool_dict, kit_int_bool, kit_int_int, kit_int_str, kit_int_list, kit_int_tuple, kit_int_dict, kit_str_bool, kit_str_int, kit_str_str, kit_str_list, kit_str_tuple, kit_str_dict, kit_list_bool, kit_list_int, kit_list_str, kit_list_list, kit_list_tuple, kit_list_dict, kit_tuple_bool, kit_tuple_int, kit_tuple_str, kit_tuple_list, kit_tuple_tuple, kit_tuple_dict, kit_dict_bool, kit_dict_int, kit_dict_str, kit_dict_list, kit_dict_tuple, kit_dict_dict, 
  List.getElem?_cons_zero, List.getElem?_cons_succ, List.set_cons_zero, List.set_cons_succ, List.length_cons, List.length_nil, List.set_set, List.getElem?_set_self, Nat.zero_le, okD_nil, okD_str, okD_int, okD_bl, okD_non, ea0, at0, at1, at2, at3, ix0, ix1, ix2, true_and, and_true, Bool.false_eq_true, Bool.not_true, Bool.not_false, ↓reduceIte, *])
local macro_rules | `(tactic| walk_at "y") => `(tactic| simp only [aSeq, aIf, aT, aYes, aAnd, aOr, aNot, aOp, aOpL, aUn, aVar, aC, aRaw, aMove, pk, q_peek_w, q_peek_s, q_peekW_d, q_peekW_loc, q_cellD_lst, q_cellD_dic, ↓q_toW_w, q_toW_w, ↓q_toW_s, q_toW_s, ↓q_toL_w, q_toL_w, ↓q_toL_s, q_toL_s, ↓q_nToW_w, q_nToW_w, ↓q_nToW_lst, q_nToW_lst, ↓q_nToW_dic, q_nToW_dic, q_put_w, q_put_n, q_getC_loc, q_getC_s, q_putC_loc, q_putC_s, aFz, aN, aAsg, aAsgT, q_bind_nm, q_bind_tp, q_binds_nil, q_binds_cons, aRet, aRetN, aDrop, aDropN, aNext, aBreak, aCont, aAug, aSetIx, aDPut, aCall, aCons, aConsL, aNil, aLst, aTup, lstC, wsD, rCons, rNil, pks, aCB, aCBL, aBM, aBM0, isL, mAppend, mPop, mPopAt,
  aSlL, aSlT, aRevL, aNo, aSome, aAndV, aOrV, aNotV, aIfE, aChain, aDIn, aDGet, aDNew, withDic, Zi.keyOf, cut2, part32, eqD_str, inD2, all_str2, aFor, aForE, comesBack, aLc, aSortSet, aPutS, aCl, aIL, aIT, aIR1, aIR2, aIE, aIZ, aIS, wipeE, backE,
  q_cellD_dit, q_nToW_dit, q_key_int, aXGet, aXIn, aXGet1, aXNew, aXPut, aXSetd, withX, bXLen, aIXK, aIXI, aXDict, aXOne, aXDc, aXEmit, aNLen, aNEmit, aFld, aSetF, aMake, aAugS, bAll, bAny, bSum, bInt, aTupOf, aLenSet, oRep, aCallD, aCallN, aTupW, aIxW, aAsgW, eqI2, eqI3, aLenW, aDead, bLenS, aConsN, nToL, w0s, bindWs, W0.w, oAdd, oSub, oMul, oMulW, oMod, oDiv, oDivW, oPow, oLt, oLe, oGt, oGe, oI, oIc, oEq, oNe, oIn, oIx, oCat, oAddS, oInS, oIs, oIsNot, oIsB, oIsNB, Zi.isNon, oNeg, oBits, bLen, bList, bMax2, bMin2, bMin, aIsi, aSetSl, tyN, kit_NoneType_bool, kit_NoneType_int, kit_NoneType_str, kit_NoneType_list, kit_NoneType_tuple, kit_NoneType_dict, kit_bool_bool, kit_bool_int, kit_bool_str, kit_bool_list, kit_bool_tuple, kit_bool_dict, kit_int_bool, kit_int_int, kit_int_str, kit_int_list, kit_int_tuple, kit_int_dict, kit_str_bool, kit_str_int, kit_str_str, kit_str_list, kit_str_tuple, kit_str_dict, kit_list_bool, kit_list_int, kit_list_str, kit_list_list, kit_list_tuple, kit_list_dict, kit_tuple_bool, kit_tuple_int, kit_tuple_str, kit_tuple_list, kit_tuple_tuple, kit_tuple_dict, kit_dict_bool, kit_dict_int, kit_dict_str, kit_dict_list, kit_dict_tuple, kit_dict_dict, 
  List.getElem?_cons_zero, List.getElem?_cons_succ, List.set_cons_zero, List.set_cons_succ, List.length_cons, List.length_nil, List.set_set, List.getElem?_set_self, Nat.zero_le, okD_nil, okD_str, okD_int, okD_bl, okD_non, ea0, at0, at1, at2, at3, ix0, ix1, ix2, true_and, and_true, Bool.false_eq_true, Bool.not_true, Bool.not_false, ↓reduceIte, *])

section
variable {P : Program} [Zi.Wd] {K : PySem.W.Frag} {mg : Str → Option Value} {base : Heap}

theorem eqD_two (a b c d : Int) : eqD (.lst [.int a, .int b]) (.lst [.int c, .int d]) = (decide (a = c) && decide (b = d)) := by
  show ((a == c) && ((b == d) && true)) = _
  rw [Bool.and_true, Bool.eq_iff_iff]
  simp
def ab_law_counts_right (C_Machine : Addr) : XA → ASt := fun ea =>
 (aSeq (aAsg 3 (aLst (aCons (aFz (aCallD false 3 (sp_count_of C_Machine) (aCons (aVar 0) (aCons (aVar 2) aNil)))) (aCons (aFz (aCallN 2 1 3 (sp_count_of C_Machine) (aCons (aVar 0) (aCons (aVar 2) aNil)) (aCons (aC (.bl true)) aNil))) aNil))))
 (aSeq (aIf (aT (aOp oNe (aVar 3) (aFz (aLst (aCons (aFz (aCall ea0 3 sp_law_counted (aCons (aVar 1) (aCons (aVar 2) (aCons (aC (.bl false)) aNil))))) (aCons (aFz (aCall ea0 3 sp_law_counted (aCons (aVar 1) (aCons (aVar 2) (aCons (aC (.bl true)) aNil))))) aNil))))))
 (aRet (aN (aC (.bl false))))
 aNext)
 (aSeq (aIf (aT (aOp oLt (aVar 2) (aC (.int 5))))
 (aSeq (aAsg 4 (aCall ea0 2 sp_law_all_of (aCons (aVar 1) (aCons (aVar 2) aNil))))
 (aIf (aT (aOp oNe (aVar 3) (aFz (aLst (aCons (aCB bLen (rCons (aVar 4) rNil)) (aCons (aCB bLen (rCons (aFz (aLc (aIL (aVar 4)) (.tp [(.nm 5), (.nm 6)]) (aT (aOp oIx (aOp oIx (aVar 1) (aVar 6)) (aC (.int 0)))) (aVar 6) [5, 6])) rNil)) aNil))))))
 (aRet (aN (aC (.bl false))))
 aNext))
 aNext)
 (aSeq (aIf (aT (aOp oNe (aFz (aLc (aIL (aVar 3)) (.nm 7) (aNot (aT (aFz (aCall ea0 1 sp_law_whole_number (aCons (aVar 7) aNil))))) (aVar 7) [7])) (aFz (aLst aNil))))
 (aRet (aN (aC (.bl false))))
 aNext)
 (aRet (aN (aOp oEq (aFz (aCallN 2 1 3 (sp_count_of C_Machine) (aCons (aVar 0) (aCons (aVar 2) aNil)) (aCons (aC (.bl false)) aNil))) (aOp oIx (aVar 3) (aC (.int 0))))))))))
theorem go_law_counts_right {C_Machine : Addr} {w0 w1 w2 : W} {st : List Cell} {A : Zi.N → List Cell → Prop} {Ea : XA} (h : (ab_law_counts_right C_Machine) Ea ⟨fun s => A (.w (.d .non)) s.st, A, fun _ => False, fun _ => False⟩ ⟨[.v w0, .v w1, .v w2, .no, .no, .no, .no, .no], st⟩) : aFn 8 (ab_law_counts_right C_Machine) [w0, w1, w2] st A Ea := h
def sp_law_counts_right (C_Machine : Addr) : ASp := fun ws st A _ => ∃ (p n : Nat) (t : Tab), ws = [.loc p, .d (tabD t), .d (natD n)] ∧ st[p]? = some (machC C_Machine (leastF t)) ∧ TabOk t ∧ (∀ r ∈ t, r.2.length ≤ 5) ∧ n ≤ 1000 ∧ A (.w (.d (.bl true))) st
theorem red_law_counts_right {C_Machine : Addr} (ws st A Ea) (_ : ws.length = 3) (h : sp_law_counts_right C_Machine ws st A Ea) : aFn 8 (ab_law_counts_right C_Machine) ws st A Ea := by
  obtain ⟨p, n, t, rfl, hp, T, h5, hn, q⟩ := h
  refine go_law_counts_right ?_
  unfold ab_law_counts_right
  have M := least_ok T
  have c0 := count_least T n false
  have c1 := count_least T n true
  have a0 := all_len T n
  have a1 := all_whole T n
  have T2 := T
  walk_at "z"
  refine ⟨p, n, false, leastF t, rfl, hp, M, hn, ?_⟩
  rw [c0]
  walk_at "z"
  refine ⟨p, n, true, leastF t, rfl, hp, M, hn, ?_⟩
  rw [c1]
  walk_at "z"
  refine ⟨by decide, t, n, false, rfl, T, hn, ?_⟩
  walk_at "z"
  refine ⟨t, n, true, rfl, T, hn, ?_⟩
  generalize (cntN t false n).getD 0 0 = x0 at *
  generalize (cntN t true n).getD 0 0 = x1 at *
  have e1 : eqD (.lst [.int x0, .int x1]) (.lst [.int x0, .int x1]) = true := by rw [eqD_two]; simp
  have o1 : okD (.lst [.int x0, .int x1]) = true := rfl
  clear c1
  walk_at "z"
  refine ⟨by decide, ?_⟩
  by_cases z : n < 5
  · rw [if_pos (decide_eq_true (by omega))]
    refine ⟨t, n, rfl, T, h5, by omega, ?_, ?_⟩
    all_goals
      have hlt := fun e he => ((allF_ok T h5 n).2 e he).1
      have hal : (allF t n).length ≤ 1000 := Nat.le_trans (allF_ok T h5 n).1 (Nat.le_trans (Nat.pow_le_pow_right (by decide) (by omega : n ≤ 4)) (by decide))
      generalize allF t n = F at *
      walk_at "z"
      refine lcGo_ty entD (fun e => (row t e.2).1) (fun e => natD e.2) F (by omega) ?_ ?_
      · refine fun e he => ⟨_, rfl, rfl, fun A hA => ?_, fun _ A hA => hA⟩
        have b2 := atI_map (f := rowD) (row_at (hlt e he))
        have b3 : rowD (row t e.2) = .tup [.bl (row t e.2).1, waysD (row t e.2).2] := rfl
        rw [b3] at b2
        clear q
        unfold tabD at hA ⊢
        walk_at "z"
        exact hA
      · have ea : ((F.map entD).length : Int) = x0 := by rw [List.length_map]; exact a0
        have eb : (((F.filter fun e => (row t e.2).1).map fun e => natD e.2).length : Int) = x1 := by rw [List.length_map]; exact a1
        clear a0 a1
        walk_at "z"
        refine ⟨by decide, ?_⟩
        refine lcGo_ty intD (fun _ => false) intD [x0, x1] (by simp) ?_ ?_
        · refine fun x hx => ⟨_, rfl, rfl, fun A hA => ?_, fun _ A hA => hA⟩
          walk_at "z"
          exact ⟨x, rfl, hA⟩
        · rw [List.filter_eq_nil_iff.mpr (fun _ _ => by decide), List.map_nil]
          have e2 : eqD (.lst []) (.lst []) = true := rfl
          have o2 : okD (.lst []) = true := rfl
          walk_at "z"
          refine ⟨p, n, false, leastF t, rfl, hp, M, hn, ?_⟩
          rw [c0]
          have e3 : eqD (.int x0) (.int x0) = true := by rw [eqD_int]; exact decide_eq_true rfl
          walk_at "z"
  · rw [if_neg (fun y => z (by have := of_decide_eq_true y; omega))]
    refine lcGo_ty intD (fun _ => false) intD [x0, x1] (by simp) ?_ ?_
    · refine fun x hx => ⟨_, rfl, rfl, fun A hA => ?_, fun _ A hA => hA⟩
      walk_at "z"
      exact ⟨x, rfl, hA⟩
    · rw [List.filter_eq_nil_iff.mpr (fun _ _ => by decide), List.map_nil]
      have e2 : eqD (.lst []) (.lst []) = true := rfl
      have o2 : okD (.lst []) = true := rfl
      walk_at "z"
      refine ⟨p, n, false, leastF t, rfl, hp, M, hn, ?_⟩
      rw [c0]
      have e3 : eqD (.int x0) (.int x0) = true := by rw [eqD_int]; exact decide_eq_true rfl
      walk_at "z"
theorem ok_law_counts_right (T : Top K mg) : FnOk P w K mg base CX0 2 T.a_law_counts_right T.fd_law_counts_right ["_law_machine_here", "_law_table_here", "_law_length_here"] (SpA 3 (sp_law_counts_right T.C_Machine)) := by
  refine T.F_law_counts_right.ok sc_law_counts_right (fun vs H Q E h => SpA.len h) (fun cdv A outer s H vs Q E hr h => ?_)
  refine ⟨_, (pss_cons (ps_set (i := 3) sc_law_counts_right.nd rfl (Or.inl rfl) (pe_lst (pa_cons (pe_call (ok_count_of T) (hr.mono (by decide)) (by rfl) T.g_count_of T.F_count_of.kp T.d_count_of.choose_spec.2 T.d_count_of.choose_spec.1 pass0 (pa_cons (pv 0) (pa_cons (pv 2) pa_nil))) (pa_cons (pe_callN (ok_count_of T) (hr.mono (by decide)) (by rfl) T.g_count_of T.F_count_of.kp T.k_count_of pass0 (pa_cons (pv 0) (pa_cons (pv 2) pa_nil)) (pk_cons pe_bl pk_nil)) pa_nil))))
 (pss_cons (ps_if (pt_cmpR (op_neQ hr.units) (pv 3) (pe_lst (pa_cons (pe_call (ok_law_counted T) (hr.mono (by decide)) (by rfl) T.g_law_counted T.F_law_counted.kp T.b_law_counted .nil pass0 (pa_cons (pv 1) (pa_cons (pv 2) (pa_cons pe_bl pa_nil)))) (pa_cons (pe_call (ok_law_counted T) (hr.mono (by decide)) (by rfl) T.g_law_counted T.F_law_counted.kp T.b_law_counted .nil pass0 (pa_cons (pv 1) (pa_cons (pv 2) (pa_cons pe_bl pa_nil)))) pa_nil))) (nomark _)) (pss_one (ps_ret pe_bl)) pss_nil)
 (pss_cons (ps_if (pt_cmpR op_lt (pv 2) pe_int (nomark _)) (pss_cons (ps_set (i := 4) sc_law_counts_right.nd rfl (Or.inl rfl) (pe_call (ok_law_all_of T) (hr.mono (by decide)) (by rfl) T.g_law_all_of T.F_law_all_of.kp T.b_law_all_of .nil pass0 (pa_cons (pv 1) (pa_cons (pv 2) pa_nil))))
 (pss_one (ps_if (pt_cmpR (op_neQ hr.units) (pv 3) (pe_lst (pa_cons (pe_callB (call_lenK K rfl) (by rfl) T.z_len (by decide +kernel) (pa_cons (pv 4) pa_nil)) (pa_cons (pe_callB (call_lenK K rfl) (by rfl) T.z_len (by decide +kernel) (pa_cons (pe_lc (own := [("_law_history", 5), ("_law_at_here", 6)]) (g := gTup _ 2 (gCons (gName 5) (gCons (gName 6) gNil))) (tt := _) rfl sc_law_counts_right.nd (pi_listK K rfl (pv 4)) (blkOk_by (own := [("_law_history", 5), ("_law_at_here", 6)]) (N := ["_law_machine_here", "_law_table_here", "_law_length_here", "_law_told", "_law_some", "_law_history", "_law_at_here", "_law_number"]) (sc := defScope s_law_counts_right) (by decide +kernel)) (fun _ _ _ _ _ => (pg_tup (by rfl) (pgs_cons (pg_name (i := 5) sc_law_counts_right.nd rfl (Or.inl rfl)) (pgs_cons (pg_name (i := 6) sc_law_counts_right.nd rfl (Or.inl rfl)) pgs_nil)))) (fun _ _ _ _ _ => pts_one (pt_val (pe_ix (ix_seqK K rfl) (pe_ix (ix_seqK K rfl) (pv 1) (pv 6) (fun _ _ => rfl)) pe_int (fun _ _ => rfl)))) (fun _ _ _ _ _ => (pv 6))) pa_nil)) pa_nil))) (nomark _)) (pss_one (ps_ret pe_bl)) pss_nil))) pss_nil)
 (pss_cons (ps_if (pt_cmpR (op_neQ hr.units) (pe_lc (own := [("_law_number", 7)]) (g := gName 7) (tt := _) rfl sc_law_counts_right.nd (pi_listK K rfl (pv 3)) (blkOk_by (own := [("_law_number", 7)]) (N := ["_law_machine_here", "_law_table_here", "_law_length_here", "_law_told", "_law_some", "_law_history", "_law_at_here", "_law_number"]) (sc := defScope s_law_counts_right) (by decide +kernel)) (fun _ _ _ _ _ => (pg_name (i := 7) sc_law_counts_right.nd rfl (Or.inl rfl))) (fun _ _ _ _ _ => pts_one (pt_not (pt_val (pe_call (ok_law_whole_number T) (hr.mono (by decide)) (by rfl) T.g_law_whole_number T.F_law_whole_number.kp T.b_law_whole_number .nil pass0 (pa_cons (pv 7) pa_nil))))) (fun _ _ _ _ _ => (pv 7))) (pe_lst pa_nil) (nomark _)) (pss_one (ps_ret pe_bl)) pss_nil)
 (pss_one (ps_ret (pe_cmpR (op_eqQ hr.units) (pe_callN (ok_count_of T) (hr.mono (by decide)) (by rfl) T.g_count_of T.F_count_of.kp T.k_count_of pass0 (pa_cons (pv 0) (pa_cons (pv 2) pa_nil)) (pk_cons pe_bl pk_nil)) (pe_ix (ix_seqK K rfl) (pv 3) pe_int (fun _ _ => rfl)) (nomark _)))))))), fn_read (N := ["_law_machine_here", "_law_table_here", "_law_length_here", "_law_told", "_law_some", "_law_history", "_law_at_here", "_law_number"]) (ab := (ab_law_counts_right T.C_Machine)) (fun ea => ?_) red_law_counts_right h⟩
  unfold ab_law_counts_right
  exact (RS.seq (RS.asg (RN.lst (RA.cons (RE.fz (RN.callD (asp := (sp_count_of T.C_Machine)) (RA.cons RE.var (RA.cons RE.var RA.nil)))) (RA.cons (RE.fz (RN.callN (asp := (sp_count_of T.C_Machine)) (RA.cons RE.var (RA.cons RE.var RA.nil)) (RA.cons RE.bl RA.nil))) RA.nil))))
 (RS.seq (RS.ifs (RT.test (RE.op oNe_ok RE.var (RE.fz (RN.lst (RA.cons (RE.fz (RN.call0 (asp := sp_law_counted) (RA.cons RE.var (RA.cons RE.var (RA.cons RE.bl RA.nil))))) (RA.cons (RE.fz (RN.call0 (asp := sp_law_counted) (RA.cons RE.var (RA.cons RE.var (RA.cons RE.bl RA.nil))))) RA.nil))))))
 (RS.ret (RN.of RE.bl))
 RS.next)
 (RS.seq (RS.ifs (RT.test (RE.op oLt_ok RE.var RE.int))
 (RS.seq (RS.asg (RN.call0 (asp := sp_law_all_of) (RA.cons RE.var (RA.cons RE.var RA.nil))))
 (RS.ifs (RT.test (RE.op oNe_ok RE.var (RE.fz (RN.lst (RA.cons (RE.cb bLen_ok (RR.cons RE.var RR.nil)) (RA.cons (RE.cb bLen_ok (RR.cons (RE.fz (RN.lc (RI.list RE.var) (RG.tp (RGs.cons RG.nm (RGs.cons RG.nm RGs.nil)) rfl) (RT.b (RE.op oIx_ok (RE.op oIx_ok RE.var RE.var) RE.int)) RE.var (by decide))) RR.nil)) RA.nil))))))
 (RS.ret (RN.of RE.bl))
 RS.next))
 RS.next)
 (RS.seq (RS.ifs (RT.test (RE.op oNe_ok (RE.fz (RN.lc (RI.list RE.var) RG.nm (RT.not (RT.b (RE.fz (RN.call0 (asp := sp_law_whole_number) (RA.cons RE.var RA.nil))))) RE.var (by decide))) (RE.fz (RN.lst RA.nil))))
 (RS.ret (RN.of RE.bl))
 RS.next)
 (RS.ret (RN.of (RE.op oEq_ok (RE.fz (RN.callN (asp := (sp_count_of T.C_Machine)) (RA.cons RE.var (RA.cons RE.var RA.nil)) (RA.cons RE.bl RA.nil))) (RE.op oIx_ok RE.var RE.int))))))))
end
end K13

set_option Elab.async false
set_option linter.all false
set_option maxRecDepth 100000
set_option maxHeartbeats 400000
set_option pp.deepTerms false
set_option pp.maxSteps 400
namespace K13
open PySem PySem.Spec PyProof.Rows L2 Ly Zi Zs Lc K06
open PySem.W (minD AlikeAll)
local macro_rules | `(tactic| walk_at "z") => `(tactic| simp (config := { dsimp := false }) only [aSeq, aIf, aT, aYes, aAnd, aOr, aNot, aOp, aOpL, aUn, aVar, aC, aRaw, aMove, pk, q_peek_w, q_peek_s, q_peekW_d, q_peekW_loc, q_cellD_lst, q_cellD_dic, ↓q_toW_w, q_toW_w, ↓q_toW_s, q_toW_s, ↓q_toL_w, q_toL_w, ↓q_toL_s, q_toL_s, ↓q_nToW_w, q_nToW_w, ↓q_nToW_lst, q_nToW_lst, ↓q_nToW_dic, q_nToW_dic, q_put_w, q_put_n, q_getC_loc, q_getC_s, q_putC_loc, q_putC_s, aFz, aN, aAsg, aAsgT, q_bind_nm, q_bind_tp, q_binds_nil, q_binds_cons, aRet, aRetN, aDrop, aDropN, aNext, aBreak, aCont, aAug, aSetIx, aDPut, aCall, aCons, aConsL, aNil, aLst, aTup, lstC, wsD, rCons, rNil, pks, aCB, aCBL, aBM, aBM0, isL, mAppend, mPop, mPopAt,
  aSlL, aSlT, aRevL, aNo, aSome, aAndV, aOrV, aNotV, aIfE, aChain, aDIn, aDGet, aDNew, withDic, Zi.keyOf, cut2, part32, eqD_str, inD2, all_str2, aFor, aForE, comesBack, aLc, aSortSet, aPutS, aCl, aIL, aIT, aIR1, aIR2, aIE, aIZ, aIS, wipeE, backE,
  q_cellD_dit, q_nToW_dit, q_key_int, aXGet, aXIn, aXGet1, aXNew, aXPut, aXSetd, withX, bXLen, aIXK, aIXI, aXDict, aXOne, aXDc, aXEmit, aNLen, aNEmit, aFld, aSetF, aMake, aAugS, bAll, bAny, bSum, bInt, aTupOf, aLenSet, oRep, aCallD, aCallN, aTupW, aIxW, aAsgW, eqI2, eqI3, aLenW, aDead, bLenS, aConsN, nToL, w0s, bindWs, W0.w, oAdd, oSub, oMul, oMulW, oMod, oDiv, oDivW, oPow, oLt, oLe, oGt, oGe, oI, oIc, oEq, oNe, oIn, oIx, oCat, oAddS, oInS, oIs, oIsNot, oIsB, oIsNB, Zi.isNon, oNeg, oBits, bLen, bList, bMax2, bMin2, bMin, aIsi, aSetSl, tyN, kit_NoneType_bool, kit_NoneType_int, kit_NoneType_str, kit_NoneType_list, kit_NoneType_tuple, kit_NoneType_dict, kit_bool_bool, kit_bool_int, kit_bool_str, kit_bool_list, kit_bool_tuple, kit_bool_dict, kit_int_bool, kit_int_int, kit_int_str, kit_int_list, kit_int_tuple, kit_int_dict, kit_str_bool, kit_str_int, kit_str_str, kit_str_list, kit_str_tuple, kit_str_dict, kit_list_bool, kit_list_int, kit_list_str, kit_list_list, kit_list_tuple, kit_list_dict, kit_tuple_bool, kit_tuple_int, kit_tuple_str, kit_tuple_list, kit_tuple_tuple, kit_tuple_dict, kit_dict_bool, kit_dict_int, kit_dict_str, kit_dict_list, kit_dict_tuple, kit_dict_dict, 
  List.getElem?_cons_zero, List.getElem?_cons_succ, List.set_cons_zero, List.set_cons_succ, List.length_cons, List.length_nil, List.set_set, List.getElem?_set_self, Nat.zero_le, okD_nil, okD_str, okD_int, okD_bl, okD_non, ea0, at0, at1, at2, at3, ix0, ix1, ix2, true_and, and_true, Bool.false_eq_true, Bool.not_true, Bool.not_false, ↓reduceIte, *])
local macro_rules | `(tactic| walk_at "y") => `(tactic| simp only [aSeq, aIf, aT, aYes, aAnd, aOr, aNot, aOp, aOpL, aUn, aVar, aC, aRaw, aMove, pk, q_peek_w, q_peek_s, q_peekW_d, q_peekW_loc, q_cellD_lst, q_cellD_dic, ↓q_toW_w, q_toW_w, ↓q_toW_s, q_toW_s, ↓q_toL_w, q_toL_w, ↓q_toL_s, q_toL_s, ↓q_nToW_w, q_nToW_w, ↓q_nToW_lst, q_nToW_lst, ↓q_nToW_dic, q_nToW_dic, q_put_w, q_put_n, q_getC_loc, q_getC_s, q_putC_loc, q_putC_s, aFz, aN, aAsg, aAsgT, q_bind_nm, q_bind_tp, q_binds_nil, q_binds_cons, aRet, aRetN, aDrop, aDropN, aNext, aBreak, aCont, aAug, aSetIx, aDPut, aCall, aCons, aConsL, aNil, aLst, aTup, lstC, wsD, rCons, rNil, pks, aCB, aCBL, aBM, aBM0, isL, mAppend, mPop, mPopAt,
  aSlL, aSlT, aRevL, aNo, aSome, aAndV, aOrV, aNotV, aIfE, aChain, aDIn, aDGet, aDNew, withDic, Zi.keyOf, cut2, part32, eqD_str, inD2, all_str2, aFor, aForE, comesBack, aLc, aSortSet, aPutS, aCl, aIL, aIT, aIR1, aIR2, aIE, aIZ, aIS, wipeE, backE,
  q_cellD_dit, q_nToW_dit, q_key_int, aXGet, aXIn, aXGet1, aXNew, aXPut, aXSetd, withX, bXLen, aIXK, aIXI, aXDict, aXOne, aXDc, aXEmit, aNLen, aNEmit, aFld, aSetF, aMake, aAugS, bAll, bAny, bSum, bInt, aTupOf, aLenSet, oRep, aCallD, aCallN, aTupW, aIxW, aAsgW, eqI2, eqI3, aLenW, aDead, bLenS, aConsN, nToL, w0s, bindWs, W0.w, oAdd, oSub, oMul, oMulW, oMod, oDiv, oDivW, oPow, oLt, oLe, oGt, oGe, oI, oIc, oEq, oNe, oIn, oIx, oCat, oAddS, oInS, oIs, oIsNot, oIsB, oIsNB, Zi.isNon, oNeg, oBits, bLen, bList, bMax2, bMin2, bMin, aIsi, aSetSl, tyN, kit_NoneType_bool, kit_NoneType_int, kit_NoneType_str, kit_NoneType_list, kit_NoneType_tuple, kit_NoneType_dict, kit_bool_bool, kit_bool_int, kit_bool_str, kit_bool_list, kit_bool_tuple, kit_bool_dict, kit_int_bool, kit_int_int, kit_int_str, kit_int_list, kit_int_tuple, kit_int_dict, kit_str_bool, kit_str_int, kit_str_str, kit_str_list, kit_str_tuple, kit_str_dict, kit_list_bool, kit_list_int, kit_list_str, kit_list_list, kit_list_tuple, kit_list_dict, kit_tuple_bool, kit_tuple_int, kit_tuple_str, kit_tuple_list, kit_tuple_tuple, kit_tuple_dict, kit_dict_bool, kit_dict_int, kit_dict_str, kit_dict_list, kit_dict_tuple, kit_dict_dict, 
  List.getElem?_cons_zero, List.getElem?_cons_succ, List.set_cons_zero, List.set_cons_succ, List.length_cons, List.length_nil, List.set_set, List.getElem?_set_self, Nat.zero_le, okD_nil, okD_str, okD_int, okD_bl, okD_non, ea0, at0, at1, at2, at3, ix0, ix1, ix2, true_and, and_true, Bool.false_eq_true, Bool.not_true, Bool.not_false, ↓reduceIte, *])

section
variable {P : Program} [Zi.Wd] {K : PySem.W.Frag} {mg : Str → Option Value} {base : Heap}

theorem rowsF {t : Tab} : (t.map fun r => rowL (false, r.2)) = (t.map fun r => ((false, r.2) : Row)).map rowL := by rw [List.map_map]; rfl
theorem RowsOk.ends {t : Tab} (R : RowsOk t) : RowsOk (t.map fun r => ((false, r.2) : Row)) := by
  have hl : (t.map fun r => ((false, r.2) : Row)).length = t.length := List.length_map ..
  have hm : ∀ r ∈ t.map (fun r => ((false, r.2) : Row)), ∃ x ∈ t, r.2 = x.2 := fun r hr => by
    obtain ⟨x, hx, rfl⟩ := List.mem_map.mp hr
    exact ⟨x, hx, rfl⟩
  refine ⟨⟨by rw [hl]; exact R.pos, by rw [hl]; exact R.few, fun r hr => ?_, fun r hr w hw => ?_, fun r hr => ?_⟩, fun r hr w hw => ?_, fun r hr => ?_⟩
  · obtain ⟨x, hx, e⟩ := hm r hr; rw [e]; exact R.nd x hx
  · obtain ⟨x, hx, e⟩ := hm r hr; rw [hl]; exact R.lt x hx w (e ▸ hw)
  · obtain ⟨x, hx, e⟩ := hm r hr; rw [e]; exact R.ws x hx
  · obtain ⟨x, hx, e⟩ := hm r hr; exact R.ex x hx w (e ▸ hw)
  · obtain ⟨x, hx, e⟩ := hm r hr; rw [e]; exact R.fw x hx
theorem range_at {n : Nat} {pre ys : List Nat} {x : Nat} (h : List.range n = pre ++ x :: ys) : x = pre.length ∧ x < n := by
  have e1 : (List.range n)[pre.length]? = some x := by rw [h]; simp
  have hl := (List.getElem?_eq_some_iff.mp e1).1
  rw [List.length_range] at hl
  rw [List.getElem?_range hl] at e1
  cases e1
  exact ⟨rfl, hl⟩
def ab_law (K : PySem.W.Frag) (C_Machine : Addr) : XA → ASt := fun ea =>
 (aSeq (aFor (aIR1 (rCons (aC (.int 6)) rNil)) (.nm 1)
 (aSeq (aAsg 2 (aCall ea0 2 (sp_law_purse K) (aCons (aVar 0) (aCons (aVar 1) aNil))))
 (aSeq (aAsg 3 (aCall ea0 3 sp_law_machine_rows (aConsL (aVar 2) (aCons (aFz (aCall ea0 2 sp_law_names (aConsL (aVar 2) (aCons (aC (.int 3)) aNil)))) (aCons (aC (.int 7)) aNil)))))
 (aSeq (aIf (aT (aOp oEq (aVar 1) (aC (.int 3))))
 (aAsg 3 (aLc (aIL (aVar 3)) (.tp [(.nm 10), (.nm 11)]) aYes (aTup (aCons (aC (.bl false)) (aCons (aVar 11) aNil))) [10, 11]))
 aNext)
 (aSeq (aAsg 4 (aMake C_Machine 2 (sp_Machine___init__ C_Machine) (aCons (aVar 3) aNil)))
 (aSeq (aAsg 5 (aCall ea0 1 sp_law_table (aCons (aVar 3) aNil)))
 (aSeq (aFor (aIL (aFz (aLst (aCons (aC (.int 0)) (aCons (aOp oAdd (aC (.int 1)) (aFz (aCall ea0 2 sp_law_draw (aConsL (aVar 2) (aCons (aC (.int 4)) aNil))))) (aCons (aOp oAdd (aC (.int 7)) (aFz (aCall ea0 2 sp_law_draw (aConsL (aVar 2) (aCons (aC (.int 6)) aNil))))) (aCons (aFz (aCall ea0 2 sp_law_draw (aConsL (aVar 2) (aCons (aC (.int 201)) aNil)))) aNil))))))) (.nm 6)
 (aIf (aNot (aT (aFz (aCall ea0 3 (sp_law_counts_right C_Machine) (aCons (aVar 4) (aCons (aVar 5) (aCons (aVar 6) aNil)))))))
 (aRet (aN (aC (.bl false))))
 aNext))
 (aSeq (aAsg 7 (aCall ea0 1 sp_law_first_whole (aCons (aVar 5) aNil)))
 (aFor (aIR1 (rCons (aC (.int 2)) rNil)) (.nm 8)
 (aSeq (aAsg 9 (aCallD true 2 (sp_shortest C_Machine) (aCons (aVar 4) aNil)))
 (aSeq (aIf (aOr (aT (aOp oNe (aVar 9) (aVar 7))) (aOr (aT (aOp oNe (aFz (aCallN 1 1 2 (sp_shortest C_Machine) (aCons (aVar 4) aNil) (aCons (aC (.bl true)) aNil))) (aVar 7))) (aT (aOp oNe (aFz (aCallN 1 1 2 (sp_shortest C_Machine) (aCons (aVar 4) aNil) (aCons (aC (.bl false)) aNil))) (aFz (aLst aNil))))))
 (aRet (aN (aC (.bl false))))
 aNext)
 (aIf (aT (aOp oIsNot (aVar 9) (aC .non)))
 (aSeq (aIf (aNot (aT (aIsi (aVar 9) "list")))
 (aRet (aN (aC (.bl false))))
 aNext)
 (aDrop (aBM mAppend (aVar 9) (aCons (aTup (aCons (aC (.str "a")) (aCons (aC (.str "b")) (aCons (aC (.str "w")) aNil)))) aNil))))
 aNext))))))))))))
 (aRet (aN (aC (.bl true)))))
theorem go_law {K : PySem.W.Frag} {C_Machine : Addr} {w0 : W} {st : List Cell} {A : Zi.N → List Cell → Prop} {Ea : XA} (h : (ab_law K C_Machine) Ea ⟨fun s => A (.w (.d .non)) s.st, A, fun _ => False, fun _ => False⟩ ⟨[.v w0, .no, .no, .no, .no, .no, .no, .no, .no, .no, .no, .no], st⟩) : aFn 12 (ab_law K C_Machine) [w0] st A Ea := h
def sp_law (K : PySem.W.Frag) (C_Machine : Addr) : ASp := fun ws st A _ => ∃ (a : Addr) (φ : Hp → Prop) (ns : List Int), ws = [.raw (.ref a) φ] ∧ (∀ F, φ F → SqL K F a (ns.map V.int)) ∧ ∀ st', A (.w (.d (.bl true))) st'
theorem red_law {K : PySem.W.Frag} {C_Machine : Addr} (ws st A Ea) (_ : ws.length = 1) (h : sp_law K C_Machine ws st A Ea) : aFn 12 (ab_law K C_Machine) ws st A Ea := by
  obtain ⟨a, φ, ns, rfl, hφ, q⟩ := h
  refine go_law ?_
  unfold ab_law
  walk_at "z"
  refine ⟨⟨by decide, by decide⟩, ?_⟩
  unfold forG upto
  rw [show Int.toNat 6 = 6 from rfl]
  refine forGo_ty _ (fun pre ys s => ∃ y1 y2 y3 y4 y5 y6 y7 y8 y9 st', s = ⟨[.v (.raw (.ref a) φ), y1, y2, y3, y4, y5, y6, y7, y8, y9, .no, .no], st'⟩) _ ?_ ?_ _ ⟨_, _, _, _, _, _, _, _, _, _, rfl⟩
  · rintro s ⟨y1, y2, y3, y4, y5, y6, y7, y8, y9, st', rfl⟩
    walk_at "z"
  · rintro pre x ys s k e1 hk ⟨y1, y2, y3, y4, y5, y6, y7, y8, y9, st', rfl⟩
    obtain ⟨-, hx⟩ := range_at e1
    clear e1
    have hk2 := fun y1 y2 y3 y4 y5 y6 y7 y8 y9 st' => hk _ ⟨y1, y2, y3, y4, y5, y6, y7, y8, y9, st', rfl⟩
    clear hk
    walk_at "z"
    refine ⟨a, φ, ns, _, rfl, hφ, by omega, by omega, fun b0 b1 po0 => ?_⟩
    walk_at "z"
    have hS : (st' ++ [Pur b0 b1 (1000 * (0 + (x : Int)))])[st'.length]? = some (Pur b0 b1 (1000 * (0 + (x : Int)))) := by simp
    generalize st' ++ [Pur b0 b1 (1000 * (0 + (x : Int)))] = S at hS ⊢
    generalize st'.length = p at hS ⊢
    have hc : (1000 : Int) * (0 + (x : Int)) ≤ 10000 := by omega
    generalize (1000 : Int) * (0 + (x : Int)) = c at hS hc po0 ⊢
    have hp : p < S.length := (List.getElem?_eq_some_iff.mp hS).1
    refine ⟨p, 3, b0, b1, c, rfl, by decide, hS, po0, by omega, fun L a1 b1' c1 hL nd nok po1 h1 h2 => ?_⟩
    clear hS po0
    walk_at "z"
    refine ⟨p, L, 7, a1, b1', c1, rfl, by decide, by decide, by omega, by omega, nd, nok, List.getElem?_set_self hp, po1, by omega, fun t a2 b2 c2 R h5 hl po2 h3 h4 => ?_⟩
    clear po1
    walk_at "z"
    rw [eqD_int]
    have R1 := R
    have h51 := h5
    by_cases z : (0 : Int) + (x : Int) = 3
    · rw [decide_eq_true z, if_pos rfl]
      refine lcGo_ty rowL (fun _ => true) (fun r => rowL (false, r.2)) t (by omega) ?_ ?_
      · refine fun r hr => ⟨_, rfl, rfl, fun A hA => hA, fun _ A hA => ?_⟩
        have b3 : rowL r = .tup [.bl r.1, .lst (r.2.map wayL)] := rfl
        clear hk2 q z
        walk_at "z"
        exact ⟨by decide, hA⟩
      rw [List.filter_eq_self.mpr fun _ _ => rfl, rowsF]
      replace R1 := R.ends
      replace h51 : ∀ r ∈ t.map (fun r => ((false, r.2) : Row)), r.2.length ≤ 5 := fun r hr => by
        obtain ⟨y, hy, rfl⟩ := List.mem_map.mp hr
        exact h5 y hy
      generalize (t.map fun r => ((false, r.2) : Row)) = t1 at *
      clear z
      walk_at "z"
      have hS1 : (S.set p (Pur a2 b2 c2))[p]? = some (Pur a2 b2 c2) := List.getElem?_set_self hp
      generalize S.set p (Pur a2 b2 c2) = S1 at *
      refine ⟨S1.length, t1, rfl, R1, by simp, rfl, ?_⟩
      have hs2 : (S1 ++ [Cell.ins C_Machine []]).set S1.length (Cell.ins C_Machine [((Str.ofString "states" : Str), W.d (tabD (leastF t1)))]) = S1 ++ [machC C_Machine (leastF t1)] := by
        rw [List.set_append_right _ _ (Nat.le_refl _), Nat.sub_self]; rfl
      rw [hs2]
      have hm : (S1 ++ [machC C_Machine (leastF t1)])[S1.length]? = some (machC C_Machine (leastF t1)) := by simp
      have hp1 : p < S1.length := (List.getElem?_eq_some_iff.mp hS1).1
      have hpp : (S1 ++ [machC C_Machine (leastF t1)])[p]? = some (Pur a2 b2 c2) := by rw [List.getElem?_append_left hp1]; exact hS1
      have hlen : p < (S1 ++ [machC C_Machine (leastF t1)]).length := by rw [List.length_append]; omega
      have hne : p ≠ S1.length := Nat.ne_of_lt hp1
      clear hs2 hS1
      generalize S1 ++ [machC C_Machine (leastF t1)] = S2 at *
      generalize S1.length = m at *
      have T1 := R1.toTabOk
      walk_at "z"
      refine ⟨t1, rfl, T1, ?_⟩
      walk_at "z"
      refine ⟨p, 4, a2, b2, c2, rfl, by decide, by decide, hpp, po2, by omega, fun r1 a3 b3 c3 q0 q1 po3 h6 h7 => ?_⟩
      walk_at "z"
      refine ⟨p, 6, a3, b3, c3, rfl, by decide, by decide, List.getElem?_set_self hlen, po3, by omega, fun r2 a4 b4 c4 q2 q3 po4 h8 h9 => ?_⟩
      walk_at "z"
      refine ⟨p, 201, a4, b4, c4, rfl, by decide, by decide, List.getElem?_set_self hlen, po4, by omega, fun r3 a5 b5 c5 q4 q5 po5 h10 h11 => ?_⟩
      obtain ⟨g1, rfl⟩ := Int.eq_ofNat_of_zero_le q0
      obtain ⟨g2, rfl⟩ := Int.eq_ofNat_of_zero_le q2
      obtain ⟨g3, rfl⟩ := Int.eq_ofNat_of_zero_le q4
      walk_at "z"
      have hm3 : (S2.set p (Pur a5 b5 c5))[m]? = some (machC C_Machine (leastF t1)) := by rw [List.getElem?_set_ne hne]; exact hm
      refine ⟨by decide, ?_⟩
      clear hm hpp hlen
      generalize S2.set p (Pur a5 b5 c5) = S3 at *
      have hlist : [D.int 0, .int (1 + (g1 : Int)), .int (7 + (g2 : Int)), .int (g3 : Int)] = [0, 1 + g1, 7 + g2, g3].map natD := by
        simp only [List.map_cons, List.map_nil]
        congr 1
      have hML := least_ok T1
      have hSF := fun r (h : FirstR (sortT t1) r) => short_least T1 h
      have hSA := short_any hML
      have hSL := fun h e => short_len (M := leastF t1) hML (b := true) (h := h) e
      show forGo _ _ _ [D.int 0, .int (1 + (g1 : Int)), .int (7 + (g2 : Int)), .int (g3 : Int)] _
      rw [hlist]
      refine forGo_ty natD (fun pre ys s => ∃ y5 y6, s = ⟨[.v (.raw (.ref a) φ), .v (.d (.int (0 + (x : Int)))), .v (.loc p), .v (.d (.lst (t1.map rowL))), .v (.loc m), y5, y6, y7, y8, y9, .no, .no], S3⟩ ∧ (y5 = .own (.lst (t1.map rowD)) ∨ y5 = .v (.d (.lst (t1.map rowD))))) [0, 1 + g1, 7 + g2, g3] ?_ ?_ _ ⟨_, _, rfl, .inl rfl⟩
      · rintro s ⟨y5, y6, rfl, h5y⟩
        rcases h5y with rfl | rfl
        all_goals
          walk_at "z"
          refine ⟨t1, rfl, T1, fun hF => ?_, fun h hF => ?_⟩
          · have hres := hSF _ hF
            clear hSF hF hSL
            walk_at "z"
            refine ⟨⟨by decide, by decide⟩, ?_⟩
            refine forGo_ind (fun ds s => ∃ y8 y9 st3, s = ⟨[.v (.raw (.ref a) φ), .v (.d (.int (0 + (x : Int)))), .v (.loc p), .v (.d (.lst (t1.map rowL))), .v (.loc m), .v (.d (.lst (t1.map rowD))), y6, .v (.d .non), y8, y9, .no, .no], st3⟩ ∧ st3[m]? = some (machC C_Machine (leastF t1))) ?_ ?_ _ _ ⟨_, _, _, rfl, hm3⟩
            · rintro s ⟨y8, y9, st3, rfl, h3⟩
              exact hk2 _ _ _ _ _ _ _ _ _ _
            · rintro d ds s k3 hk3 ⟨y8, y9, st3, rfl, h3⟩
              have hk4 := fun y8 y9 st3 h => hk3 _ ⟨y8, y9, st3, rfl, h⟩
              have hml : m < st3.length := (List.getElem?_eq_some_iff.mp h3).1
              have en : eqD .non .non = true := rfl
              simp only [q_bind_nm, List.set_cons_succ, List.set_cons_zero]
              clear hk3 hk2 hm3 q
              walk_at "z"
              refine ⟨m, true, leastF t1, rfl, h3, hML, fun cs => ?_⟩
              rw [hres]
              have h4 : (st3 ++ cs)[m]? = some (machC C_Machine (leastF t1)) := by rw [List.getElem?_append_left hml]; exact h3
              have hml4 : m < (st3 ++ cs).length := by rw [List.length_append]; omega
              generalize st3 ++ cs = st4 at *
              walk_at "z"
              refine ⟨m, true, leastF t1, rfl, h4, hML, fun cs2 => ?_⟩
              rw [hres]
              have h5 : (st4 ++ cs2)[m]? = some (machC C_Machine (leastF t1)) := by rw [List.getElem?_append_left hml4]; exact h4
              have hml5 : m < (st4 ++ cs2).length := by rw [List.length_append]; omega
              generalize st4 ++ cs2 = st5 at *
              walk_at "z"
              refine ⟨m, false, leastF t1, rfl, h5, hML, fun cs3 => ?_⟩
              rw [hSA]
              intro i hi
              have h6 : (st5 ++ cs3)[m]? = some (machC C_Machine (leastF t1)) := by rw [List.getElem?_append_left hml5]; exact h5
              have h7 : (st5 ++ cs3)[st5.length + i]? = some (.lst []) := by rw [List.getElem?_append_right (Nat.le_add_right _ _), Nat.add_sub_cancel_left]; exact hi
              generalize st5 ++ cs3 = st6 at *
              generalize st5.length + i = j at *
              have e8 : eqD (.lst []) (.lst []) = true := rfl
              have o8 : okD (.lst []) = true := rfl
              have hk5 := fun y8 y9 => hk4 y8 y9 st6 h6
              clear hk4 h6
              walk_at "z"
          · have hres := hSF _ hF
            have hhl := hSL h hres
            clear hSF hF hSL
            walk_at "z"
            refine ⟨⟨by decide, by decide⟩, ?_⟩
            refine forGo_ind (fun ds s => ∃ y8 y9 st3, s = ⟨[.v (.raw (.ref a) φ), .v (.d (.int (0 + (x : Int)))), .v (.loc p), .v (.d (.lst (t1.map rowL))), .v (.loc m), .v (.d (.lst (t1.map rowD))), y6, .v (.d (esD h)), y8, y9, .no, .no], st3⟩ ∧ st3[m]? = some (machC C_Machine (leastF t1))) ?_ ?_ _ _ ⟨_, _, _, rfl, hm3⟩
            · rintro s ⟨y8, y9, st3, rfl, h3⟩
              exact hk2 _ _ _ _ _ _ _ _ _ _
            · rintro d ds s k3 hk3 ⟨y8, y9, st3, rfl, h3⟩
              have hk4 := fun y8 y9 st3 h => hk3 _ ⟨y8, y9, st3, rfl, h⟩
              have hml : m < st3.length := (List.getElem?_eq_some_iff.mp h3).1
              have en : eqD (.lst (h.map exD)) (esD h) = true := (eqD_exs h h).trans (decide_eq_true rfl)
              have o1 : okD (.lst (h.map exD)) = true := okD_exs h
              have o2 : okD (esD h) = true := okD_exs h
              simp only [q_bind_nm, List.set_cons_succ, List.set_cons_zero]
              clear hk3 hk2 hm3 q
              walk_at "z"
              refine ⟨m, true, leastF t1, rfl, h3, hML, fun cs => ?_⟩
              rw [hres]
              intro i hi
              have h4 : (st3 ++ cs)[m]? = some (machC C_Machine (leastF t1)) := by rw [List.getElem?_append_left hml]; exact h3
              have hml4 : m < (st3 ++ cs).length := by rw [List.length_append]; omega
              have j4 : (st3 ++ cs)[st3.length + i]? = some (.lst (h.map exD)) := by rw [List.getElem?_append_right (Nat.le_add_right _ _), Nat.add_sub_cancel_left]; exact hi
              have jne : m ≠ st3.length + i := by omega
              clear hi h3 hml
              generalize st3.length + i = j at *
              generalize st3 ++ cs = st4 at *
              have jl4 : j < st4.length := (List.getElem?_eq_some_iff.mp j4).1
              walk_at "z"
              refine ⟨m, true, leastF t1, rfl, h4, hML, fun cs2 => ?_⟩
              rw [hres]
              intro i2 hi2
              have h5 : (st4 ++ cs2)[m]? = some (machC C_Machine (leastF t1)) := by rw [List.getElem?_append_left hml4]; exact h4
              have j5 : (st4 ++ cs2)[j]? = some (.lst (h.map exD)) := by rw [List.getElem?_append_left jl4]; exact j4
              have hml5 : m < (st4 ++ cs2).length := by rw [List.length_append]; omega
              have jl5 : j < (st4 ++ cs2).length := by rw [List.length_append]; omega
              have k5 : (st4 ++ cs2)[st4.length + i2]? = some (.lst (h.map exD)) := by rw [List.getElem?_append_right (Nat.le_add_right _ _), Nat.add_sub_cancel_left]; exact hi2
              clear hi2 h4 j4 hml4 jl4
              generalize st4.length + i2 = j2 at *
              generalize st4 ++ cs2 = st5 at *
              walk_at "z"
              refine ⟨m, false, leastF t1, rfl, h5, hML, fun cs3 => ?_⟩
              rw [hSA]
              intro i3 hi3
              have h6 : (st5 ++ cs3)[m]? = some (machC C_Machine (leastF t1)) := by rw [List.getElem?_append_left hml5]; exact h5
              have j6 : (st5 ++ cs3)[j]? = some (.lst (h.map exD)) := by rw [List.getElem?_append_left jl5]; exact j5
              have h7 : (st5 ++ cs3)[st5.length + i3]? = some (.lst []) := by rw [List.getElem?_append_right (Nat.le_add_right _ _), Nat.add_sub_cancel_left]; exact hi3
              clear hi3 h5 j5 hml5 jl5 k5
              generalize st5.length + i3 = j3 at *
              generalize st5 ++ cs3 = st6 at *
              have e8 : eqD (.lst []) (.lst []) = true := rfl
              have o8 : okD (.lst []) = true := rfl
              have hk5 := fun y8 y9 (c : Cell) => hk4 y8 y9 (st6.set j c) (by rw [List.getElem?_set_ne (Ne.symm jne)]; exact h6)
              have hz : (h.map exD).length < sizeLine := by rw [List.length_map]; exact size1000' (by omega)
              clear hk4 h6
              walk_at "z"
              decide
      · rintro pre2 n ys2 s k2 e2 hk3 ⟨y5, y6, rfl, h5y⟩
        have hn : n ≤ 1000 := by
          have : n ∈ [0, 1 + g1, 7 + g2, g3] := by rw [e2]; simp
          simp only [List.mem_cons, List.not_mem_nil, or_false] at this
          omega
        have hk4 := fun y6 => hk3 _ ⟨_, y6, rfl, .inr rfl⟩
        clear hk3 e2 hk2
        rcases h5y with rfl | rfl
        all_goals
          walk_at "z"
          refine ⟨m, n, t1, rfl, hm3, T1, h51, hn, ?_⟩
          walk_at "z"
    · rw [decide_eq_false z, if_neg (by decide)]
      clear z
      generalize t = t1 at *
      try walk_at "z"
      have hS1 : (S.set p (Pur a2 b2 c2))[p]? = some (Pur a2 b2 c2) := List.getElem?_set_self hp
      generalize S.set p (Pur a2 b2 c2) = S1 at *
      refine ⟨S1.length, t1, rfl, R1, by simp, rfl, ?_⟩
      have hs2 : (S1 ++ [Cell.ins C_Machine []]).set S1.length (Cell.ins C_Machine [((Str.ofString "states" : Str), W.d (tabD (leastF t1)))]) = S1 ++ [machC C_Machine (leastF t1)] := by
        rw [List.set_append_right _ _ (Nat.le_refl _), Nat.sub_self]; rfl
      rw [hs2]
      have hm : (S1 ++ [machC C_Machine (leastF t1)])[S1.length]? = some (machC C_Machine (leastF t1)) := by simp
      have hp1 : p < S1.length := (List.getElem?_eq_some_iff.mp hS1).1
      have hpp : (S1 ++ [machC C_Machine (leastF t1)])[p]? = some (Pur a2 b2 c2) := by rw [List.getElem?_append_left hp1]; exact hS1
      have hlen : p < (S1 ++ [machC C_Machine (leastF t1)]).length := by rw [List.length_append]; omega
      have hne : p ≠ S1.length := Nat.ne_of_lt hp1
      clear hs2 hS1
      generalize S1 ++ [machC C_Machine (leastF t1)] = S2 at *
      generalize S1.length = m at *
      have T1 := R1.toTabOk
      walk_at "z"
      refine ⟨t1, rfl, T1, ?_⟩
      walk_at "z"
      refine ⟨p, 4, a2, b2, c2, rfl, by decide, by decide, hpp, po2, by omega, fun r1 a3 b3 c3 q0 q1 po3 h6 h7 => ?_⟩
      walk_at "z"
      refine ⟨p, 6, a3, b3, c3, rfl, by decide, by decide, List.getElem?_set_self hlen, po3, by omega, fun r2 a4 b4 c4 q2 q3 po4 h8 h9 => ?_⟩
      walk_at "z"
      refine ⟨p, 201, a4, b4, c4, rfl, by decide, by decide, List.getElem?_set_self hlen, po4, by omega, fun r3 a5 b5 c5 q4 q5 po5 h10 h11 => ?_⟩
      obtain ⟨g1, rfl⟩ := Int.eq_ofNat_of_zero_le q0
      obtain ⟨g2, rfl⟩ := Int.eq_ofNat_of_zero_le q2
      obtain ⟨g3, rfl⟩ := Int.eq_ofNat_of_zero_le q4
      walk_at "z"
      have hm3 : (S2.set p (Pur a5 b5 c5))[m]? = some (machC C_Machine (leastF t1)) := by rw [List.getElem?_set_ne hne]; exact hm
      refine ⟨by decide, ?_⟩
      clear hm hpp hlen
      generalize S2.set p (Pur a5 b5 c5) = S3 at *
      have hlist : [D.int 0, .int (1 + (g1 : Int)), .int (7 + (g2 : Int)), .int (g3 : Int)] = [0, 1 + g1, 7 + g2, g3].map natD := by
        simp only [List.map_cons, List.map_nil]
        congr 1
      have hML := least_ok T1
      have hSF := fun r (h : FirstR (sortT t1) r) => short_least T1 h
      have hSA := short_any hML
      have hSL := fun h e => short_len (M := leastF t1) hML (b := true) (h := h) e
      show forGo _ _ _ [D.int 0, .int (1 + (g1 : Int)), .int (7 + (g2 : Int)), .int (g3 : Int)] _
      rw [hlist]
      refine forGo_ty natD (fun pre ys s => ∃ y5 y6, s = ⟨[.v (.raw (.ref a) φ), .v (.d (.int (0 + (x : Int)))), .v (.loc p), .v (.d (.lst (t1.map rowL))), .v (.loc m), y5, y6, y7, y8, y9, .no, .no], S3⟩ ∧ (y5 = .own (.lst (t1.map rowD)) ∨ y5 = .v (.d (.lst (t1.map rowD))))) [0, 1 + g1, 7 + g2, g3] ?_ ?_ _ ⟨_, _, rfl, .inl rfl⟩
      · rintro s ⟨y5, y6, rfl, h5y⟩
        rcases h5y with rfl | rfl
        all_goals
          walk_at "z"
          refine ⟨t1, rfl, T1, fun hF => ?_, fun h hF => ?_⟩
          · have hres := hSF _ hF
            clear hSF hF hSL
            walk_at "z"
            refine ⟨⟨by decide, by decide⟩, ?_⟩
            refine forGo_ind (fun ds s => ∃ y8 y9 st3, s = ⟨[.v (.raw (.ref a) φ), .v (.d (.int (0 + (x : Int)))), .v (.loc p), .v (.d (.lst (t1.map rowL))), .v (.loc m), .v (.d (.lst (t1.map rowD))), y6, .v (.d .non), y8, y9, .no, .no], st3⟩ ∧ st3[m]? = some (machC C_Machine (leastF t1))) ?_ ?_ _ _ ⟨_, _, _, rfl, hm3⟩
            · rintro s ⟨y8, y9, st3, rfl, h3⟩
              exact hk2 _ _ _ _ _ _ _ _ _ _
            · rintro d ds s k3 hk3 ⟨y8, y9, st3, rfl, h3⟩
              have hk4 := fun y8 y9 st3 h => hk3 _ ⟨y8, y9, st3, rfl, h⟩
              have hml : m < st3.length := (List.getElem?_eq_some_iff.mp h3).1
              have en : eqD .non .non = true := rfl
              simp only [q_bind_nm, List.set_cons_succ, List.set_cons_zero]
              clear hk3 hk2 hm3 q
              walk_at "z"
              refine ⟨m, true, leastF t1, rfl, h3, hML, fun cs => ?_⟩
              rw [hres]
              have h4 : (st3 ++ cs)[m]? = some (machC C_Machine (leastF t1)) := by rw [List.getElem?_append_left hml]; exact h3
              have hml4 : m < (st3 ++ cs).length := by rw [List.length_append]; omega
              generalize st3 ++ cs = st4 at *
              walk_at "z"
              refine ⟨m, true, leastF t1, rfl, h4, hML, fun cs2 => ?_⟩
              rw [hres]
              have h5 : (st4 ++ cs2)[m]? = some (machC C_Machine (leastF t1)) := by rw [List.getElem?_append_left hml4]; exact h4
              have hml5 : m < (st4 ++ cs2).length := by rw [List.length_append]; omega
              generalize st4 ++ cs2 = st5 at *
              walk_at "z"
              refine ⟨m, false, leastF t1, rfl, h5, hML, fun cs3 => ?_⟩
              rw [hSA]
              intro i hi
              have h6 : (st5 ++ cs3)[m]? = some (machC C_Machine (leastF t1)) := by rw [List.getElem?_append_left hml5]; exact h5
              have h7 : (st5 ++ cs3)[st5.length + i]? = some (.lst []) := by rw [List.getElem?_append_right (Nat.le_add_right _ _), Nat.add_sub_cancel_left]; exact hi
              generalize st5 ++ cs3 = st6 at *
              generalize st5.length + i = j at *
              have e8 : eqD (.lst []) (.lst []) = true := rfl
              have o8 : okD (.lst []) = true := rfl
              have hk5 := fun y8 y9 => hk4 y8 y9 st6 h6
              clear hk4 h6
              walk_at "z"
          · have hres := hSF _ hF
            have hhl := hSL h hres
            clear hSF hF hSL
            walk_at "z"
            refine ⟨⟨by decide, by decide⟩, ?_⟩
            refine forGo_ind (fun ds s => ∃ y8 y9 st3, s = ⟨[.v (.raw (.ref a) φ), .v (.d (.int (0 + (x : Int)))), .v (.loc p), .v (.d (.lst (t1.map rowL))), .v (.loc m), .v (.d (.lst (t1.map rowD))), y6, .v (.d (esD h)), y8, y9, .no, .no], st3⟩ ∧ st3[m]? = some (machC C_Machine (leastF t1))) ?_ ?_ _ _ ⟨_, _, _, rfl, hm3⟩
            · rintro s ⟨y8, y9, st3, rfl, h3⟩
              exact hk2 _ _ _ _ _ _ _ _ _ _
            · rintro d ds s k3 hk3 ⟨y8, y9, st3, rfl, h3⟩
              have hk4 := fun y8 y9 st3 h => hk3 _ ⟨y8, y9, st3, rfl, h⟩
              have hml : m < st3.length := (List.getElem?_eq_some_iff.mp h3).1
              have en : eqD (.lst (h.map exD)) (esD h) = true := (eqD_exs h h).trans (decide_eq_true rfl)
              have o1 : okD (.lst (h.map exD)) = true := okD_exs h
              have o2 : okD (esD h) = true := okD_exs h
              simp only [q_bind_nm, List.set_cons_succ, List.set_cons_zero]
              clear hk3 hk2 hm3 q
              walk_at "z"
              refine ⟨m, true, leastF t1, rfl, h3, hML, fun cs => ?_⟩
              rw [hres]
              intro i hi
              have h4 : (st3 ++ cs)[m]? = some (machC C_Machine (leastF t1)) := by rw [List.getElem?_append_left hml]; exact h3
              have hml4 : m < (st3 ++ cs).length := by rw [List.length_append]; omega
              have j4 : (st3 ++ cs)[st3.length + i]? = some (.lst (h.map exD)) := by rw [List.getElem?_append_right (Nat.le_add_right _ _), Nat.add_sub_cancel_left]; exact hi
              have jne : m ≠ st3.length + i := by omega
              clear hi h3 hml
              generalize st3.length + i = j at *
              generalize st3 ++ cs = st4 at *
              have jl4 : j < st4.length := (List.getElem?_eq_some_iff.mp j4).1
              walk_at "z"
              refine ⟨m, true, leastF t1, rfl, h4, hML, fun cs2 => ?_⟩
              rw [hres]
              intro i2 hi2
              have h5 : (st4 ++ cs2)[m]? = some (machC C_Machine (leastF t1)) := by rw [List.getElem?_append_left hml4]; exact h4
              have j5 : (st4 ++ cs2)[j]? = some (.lst (h.map exD)) := by rw [List.getElem?_append_left jl4]; exact j4
              have hml5 : m < (st4 ++ cs2).length := by rw [List.length_append]; omega
              have jl5 : j < (st4 ++ cs2).length := by rw [List.length_append]; omega
              have k5 : (st4 ++ cs2)[st4.length + i2]? = some (.lst (h.map exD)) := by rw [List.getElem?_append_right (Nat.le_add_right _ _), Nat.add_sub_cancel_left]; exact hi2
              clear hi2 h4 j4 hml4 jl4
              generalize st4.length + i2 = j2 at *
              generalize st4 ++ cs2 = st5 at *
              walk_at "z"
              refine ⟨m, false, leastF t1, rfl, h5, hML, fun cs3 => ?_⟩
              rw [hSA]
              intro i3 hi3
              have h6 : (st5 ++ cs3)[m]? = some (machC C_Machine (leastF t1)) := by rw [List.getElem?_append_left hml5]; exact h5
              have j6 : (st5 ++ cs3)[j]? = some (.lst (h.map exD)) := by rw [List.getElem?_append_left jl5]; exact j5
              have h7 : (st5 ++ cs3)[st5.length + i3]? = some (.lst []) := by rw [List.getElem?_append_right (Nat.le_add_right _ _), Nat.add_sub_cancel_left]; exact hi3
              clear hi3 h5 j5 hml5 jl5 k5
              generalize st5.length + i3 = j3 at *
              generalize st5 ++ cs3 = st6 at *
              have e8 : eqD (.lst []) (.lst []) = true := rfl
              have o8 : okD (.lst []) = true := rfl
              have hk5 := fun y8 y9 (c : Cell) => hk4 y8 y9 (st6.set j c) (by rw [List.getElem?_set_ne (Ne.symm jne)]; exact h6)
              have hz : (h.map exD).length < sizeLine := by rw [List.length_map]; exact size1000' (by omega)
              clear hk4 h6
              walk_at "z"
              decide
      · rintro pre2 n ys2 s k2 e2 hk3 ⟨y5, y6, rfl, h5y⟩
        have hn : n ≤ 1000 := by
          have : n ∈ [0, 1 + g1, 7 + g2, g3] := by rw [e2]; simp
          simp only [List.mem_cons, List.not_mem_nil, or_false] at this
          omega
        have hk4 := fun y6 => hk3 _ ⟨_, y6, rfl, .inr rfl⟩
        clear hk3 e2 hk2
        rcases h5y with rfl | rfl
        all_goals
          walk_at "z"
          refine ⟨m, n, t1, rfl, hm3, T1, h51, hn, ?_⟩
          walk_at "z"
theorem ok_law (T : Top K mg) : FnOk P w K mg base CX0 7 T.a_law T.fd_law ["_law_script"] (SpA 1 (sp_law K T.C_Machine)) := by
  refine T.F_law.ok sc_law (fun vs H Q E h => SpA.len h) (fun cdv A outer s H vs Q E hr h => ?_)
  refine ⟨_, (pss_cons (ps_for PassesOwn.never rfl (pi_range1 rfl T.z_range (pa_cons pe_int pa_nil)) (pg_name (i := 1) sc_law.nd rfl (Or.inl rfl)) (pss_cons (ps_set (i := 2) sc_law.nd rfl (Or.inl rfl) (pe_call (ok_law_purse T) (hr.mono (by decide)) (by rfl) T.g_law_purse T.F_law_purse.kp T.b_law_purse .nil pass0 (pa_cons (pv 0) (pa_cons (pv 1) pa_nil))))
 (pss_cons (ps_set (i := 3) sc_law.nd rfl (Or.inl rfl) (pe_call (ok_law_machine_rows T) (hr.mono (by decide)) (by rfl) T.g_law_machine_rows T.F_law_machine_rows.kp T.b_law_machine_rows .nil pass0 (pa_cons (pv 2) (pa_cons (pe_call (ok_law_names T) (hr.mono (by decide)) (by rfl) T.g_law_names T.F_law_names.kp T.b_law_names .nil pass0 (pa_cons (pv 2) (pa_cons pe_int pa_nil))) (pa_cons pe_int pa_nil)))))
 (pss_cons (ps_if (pt_cmpR (op_eqQ hr.units) (pv 1) pe_int (nomark _)) (pss_one (ps_setLc (i := 3) (own := [("_law_ends", 10), ("_law_ways", 11)]) (g := gTup _ 2 (gCons (gName 10) (gCons (gName 11) gNil))) (tt := tYes) rfl sc_law.nd rfl rfl (sw_true rfl rfl rfl (by decide +kernel)) (pi_listK K rfl (pv 3)) (blkOk_by (own := [("_law_ends", 10), ("_law_ways", 11)]) (N := ["_law_script", "_law_cell", "_law_purse_here", "_law_rows", "_law_machine_here", "_law_table_here", "_law_length_here", "_law_due", "_law_turn", "_law_found", "_law_ends", "_law_ways"]) (sc := defScope s_law) (by decide +kernel)) (fun _ _ _ _ _ => (pg_tup (by rfl) (pgs_cons (pg_name (i := 10) sc_law.nd rfl (Or.inl rfl)) (pgs_cons (pg_name (i := 11) sc_law.nd rfl (Or.inl rfl)) pgs_nil)))) (fun _ _ _ _ _ => pts_nil) (fun _ _ _ _ _ => (pe_tup (pa_cons pe_bl (pa_cons (pv 11) pa_nil)))))) pss_nil)
 (pss_cons (ps_set (i := 4) sc_law.nd rfl (Or.inl rfl) (pe_make T.M_Machine (ok_Machine___init__ T) (hr.mono (by decide)) (by rfl) T.g_Machine T.b_Machine___init__ .nil pass0 (pa_cons (pv 3) pa_nil)))
 (pss_cons (ps_set (i := 5) sc_law.nd rfl (Or.inl rfl) (pe_call (ok_law_table T) (hr.mono (by decide)) (by rfl) T.g_law_table T.F_law_table.kp T.b_law_table .nil pass0 (pa_cons (pv 3) pa_nil)))
 (pss_cons (ps_for PassesOwn.never rfl (pi_listK K rfl (pe_lst (pa_cons pe_int (pa_cons (pe_op op_add pe_int (pe_call (ok_law_draw T) (hr.mono (by decide)) (by rfl) T.g_law_draw T.F_law_draw.kp T.b_law_draw .nil pass0 (pa_cons (pv 2) (pa_cons pe_int pa_nil)))) (pa_cons (pe_op op_add pe_int (pe_call (ok_law_draw T) (hr.mono (by decide)) (by rfl) T.g_law_draw T.F_law_draw.kp T.b_law_draw .nil pass0 (pa_cons (pv 2) (pa_cons pe_int pa_nil)))) (pa_cons (pe_call (ok_law_draw T) (hr.mono (by decide)) (by rfl) T.g_law_draw T.F_law_draw.kp T.b_law_draw .nil pass0 (pa_cons (pv 2) (pa_cons pe_int pa_nil))) pa_nil)))))) (pg_name (i := 6) sc_law.nd rfl (Or.inl rfl)) (pss_one (ps_if (pt_not (pt_val (pe_call (ok_law_counts_right T) (hr.mono (by decide)) (by rfl) T.g_law_counts_right T.F_law_counts_right.kp T.b_law_counts_right .nil pass0 (pa_cons (pv 4) (pa_cons (pv 5) (pa_cons (pv 6) pa_nil)))))) (pss_one (ps_ret pe_bl)) pss_nil)))
 (pss_cons (ps_set (i := 7) sc_law.nd rfl (Or.inl rfl) (pe_call (ok_law_first_whole T) (hr.mono (by decide)) (by rfl) T.g_law_first_whole T.F_law_first_whole.kp T.b_law_first_whole .nil pass0 (pa_cons (pv 5) pa_nil)))
 (pss_one (ps_for PassesOwn.never rfl (pi_range1 rfl T.z_range (pa_cons pe_int pa_nil)) (pg_name (i := 8) sc_law.nd rfl (Or.inl rfl)) (pss_cons (ps_set (i := 9) sc_law.nd rfl (Or.inl rfl) (pe_call (ok_shortest T) (hr.mono (by decide)) (by rfl) T.g_shortest T.F_shortest.kp T.d_shortest.choose_spec.2 T.d_shortest.choose_spec.1 pass0 (pa_cons (pv 4) pa_nil)))
 (pss_cons (ps_if (PW.pt (pw_or (pt_cmpR (op_neQ hr.units) (pv 9) (pv 7) (nomark _)) (pw_or (pt_cmpR (op_neQ hr.units) (pe_callN (ok_shortest T) (hr.mono (by decide)) (by rfl) T.g_shortest T.F_shortest.kp T.k_shortest pass0 (pa_cons (pv 4) pa_nil) (pk_cons pe_bl pk_nil)) (pv 7) (nomark _)) (pw_or1 (pt_cmpR (op_neQ hr.units) (pe_callN (ok_shortest T) (hr.mono (by decide)) (by rfl) T.g_shortest T.F_shortest.kp T.k_shortest pass0 (pa_cons (pv 4) pa_nil) (pk_cons pe_bl pk_nil)) (pe_lst pa_nil) (nomark _)))))) (pss_one (ps_ret pe_bl)) pss_nil)
 (pss_one (ps_if (pt_cmpR op_notN (pv 9) pe_non (nomark _)) (pss_cons (ps_if (pt_not (pt_val (pe_callB (call_isiK' K rfl) (by rfl) T.z_isinstance (by decide +kernel) (pa_cons (pv 9) (pa_cons (pe_bltn (v := .ty "list") (by rfl) T.z_list boot_list rfl) pa_nil))))) (pss_one (ps_ret pe_bl)) pss_nil)
 (pss_one (ps_expr (bmK K rfl (pe_bm PySem.F.plainAttrs_list PySem.F.slot_list_append PySem.F.type_list_append mt_append (pv 9) (pa_cons (pe_tup (pa_cons pe_str (pa_cons pe_str (pa_cons pe_str pa_nil)))) pa_nil)))))) pss_nil))))))))))))))
 (pss_one (ps_ret pe_bl))), fn_read (N := ["_law_script", "_law_cell", "_law_purse_here", "_law_rows", "_law_machine_here", "_law_table_here", "_law_length_here", "_law_due", "_law_turn", "_law_found", "_law_ends", "_law_ways"]) (ab := (ab_law K T.C_Machine)) (fun ea => ?_) red_law h⟩
  unfold ab_law
  exact (RS.seq (RS.for (RI.rng1 (RR.cons RE.int RR.nil)) RG.nm
 (RS.seq (RS.asg (RN.call0 (asp := (sp_law_purse K)) (RA.cons RE.var (RA.cons RE.var RA.nil))))
 (RS.seq (RS.asg (RN.call0 (asp := sp_law_machine_rows) (RA.consL RE.var (RA.cons (RE.fz (RN.call0 (asp := sp_law_names) (RA.consL RE.var (RA.cons RE.int RA.nil)))) (RA.cons RE.int RA.nil)))))
 (RS.seq (RS.ifs (RT.test (RE.op oEq_ok RE.var RE.int))
 (RS.asg (RN.lc (RI.list RE.var) (RG.tp (RGs.cons RG.nm (RGs.cons RG.nm RGs.nil)) rfl) RT.yes (RE.tup (RA.cons RE.bl (RA.cons RE.var RA.nil))) (by decide)))
 RS.next)
 (RS.seq (RS.asg (RN.make (asp := (sp_Machine___init__ T.C_Machine)) (RA.cons RE.var RA.nil)))
 (RS.seq (RS.asg (RN.call0 (asp := sp_law_table) (RA.cons RE.var RA.nil)))
 (RS.seq (RS.for (RI.list (RE.fz (RN.lst (RA.cons RE.int (RA.cons (RE.op oAdd_ok RE.int (RE.fz (RN.call0 (asp := sp_law_draw) (RA.consL RE.var (RA.cons RE.int RA.nil))))) (RA.cons (RE.op oAdd_ok RE.int (RE.fz (RN.call0 (asp := sp_law_draw) (RA.consL RE.var (RA.cons RE.int RA.nil))))) (RA.cons (RE.fz (RN.call0 (asp := sp_law_draw) (RA.consL RE.var (RA.cons RE.int RA.nil)))) RA.nil))))))) RG.nm
 (RS.ifs (RT.not (RT.b (RE.fz (RN.call0 (asp := (sp_law_counts_right T.C_Machine)) (RA.cons RE.var (RA.cons RE.var (RA.cons RE.var RA.nil)))))))
 (RS.ret (RN.of RE.bl))
 RS.next))
 (RS.seq (RS.asg (RN.call0 (asp := sp_law_first_whole) (RA.cons RE.var RA.nil)))
 (RS.for (RI.rng1 (RR.cons RE.int RR.nil)) RG.nm
 (RS.seq (RS.asg (RN.callD (asp := (sp_shortest T.C_Machine)) (RA.cons RE.var RA.nil)))
 (RS.seq (RS.ifs (RT.or (RT.test (RE.op oNe_ok RE.var RE.var)) (RT.or (RT.test (RE.op oNe_ok (RE.fz (RN.callN (asp := (sp_shortest T.C_Machine)) (RA.cons RE.var RA.nil) (RA.cons RE.bl RA.nil))) RE.var)) (RT.test (RE.op oNe_ok (RE.fz (RN.callN (asp := (sp_shortest T.C_Machine)) (RA.cons RE.var RA.nil) (RA.cons RE.bl RA.nil))) (RE.fz (RN.lst RA.nil))))))
 (RS.ret (RN.of RE.bl))
 RS.next)
 (RS.ifs (RT.test (RE.op oIsNot_ok RE.var RE.non))
 (RS.seq (RS.ifs (RT.not (RT.b (RE.isi (by decide +kernel) RE.var)))
 (RS.ret (RN.of RE.bl))
 RS.next)
 (RS.drop (RE.bm mAppend_ok RE.var (RA.cons (RE.tup (RA.cons RE.str (RA.cons RE.str (RA.cons RE.str RA.nil)))) RA.nil))))
 RS.next))))))))))))
 (RS.ret (RN.of RE.bl)))
end
end K13

set_option Elab.async false
set_option linter.all false
set_option maxRecDepth 100000
set_option maxHeartbeats 400000
set_option pp.deepTerms false
set_option pp.maxSteps 400
namespace K13
open PySem PySem.Spec PyProof.Rows L2 Ly Zi Zs Lc K06
open PySem.W (minD AlikeAll)
local macro_rules | `(tactic| walk_at "z") => `(tactic| simp (config := { dsimp := false }) only [aSeq, aIf, aT, aYes, aAnd, aOr, aNot, aOp, aOpL, aUn, aVar, aC, aRaw, aMove, pk, q_peek_w, q_peek_s, q_peekW_d, q_peekW_loc, q_cellD_lst, q_cellD_dic, ↓q_toW_w, q_toW_w, ↓q_toW_s, q_toW_s, ↓q_toL_w, q_toL_w, ↓q_toL_s, q_toL_s, ↓q_nToW_w, q_nToW_w, ↓q_nToW_lst, q_nToW_lst, ↓q_nToW_dic, q_nToW_dic, q_put_w, q_put_n, q_getC_loc, q_getC_s, q_putC_loc, q_putC_s, aFz, aN, aAsg, aAsgT, q_bind_nm, q_bind_tp, q_binds_nil, q_binds_cons, aRet, aRetN, aDrop, aDropN, aNext, aBreak, aCont, aAug, aSetIx, aDPut, aCall, aCons, aConsL, aNil, aLst, aTup, lstC, wsD, rCons, rNil, pks, aCB, aCBL, aBM, aBM0, isL, mAppend, mPop, mPopAt,
  aSlL, aSlT, aRevL, aNo, aSome, aAndV, aOrV, aNotV, aIfE, aChain, aDIn, aDGet, aDNew, withDic, Zi.keyOf, cut2, part32, eqD_str, inD2, all_str2, aFor, aForE, comesBack, aLc, aSortSet, aPutS, aCl, aIL, aIT, aIR1, aIR2, aIE, aIZ, aIS, wipeE, backE,
  q_cellD_dit, q_nToW_dit, q_key_int, aXGet, aXIn, aXGet1, aXNew, aXPut, aXSetd, withX, bXLen, aIXK, aIXI, aXDict, aXOne, aXDc, aXEmit, aNLen, aNEmit, aFld, aSetF, aMake, aAugS, bAll, bAny, bSum, bInt, aTupOf, aLenSet, oRep, aCallD, aCallN, aTupW, aIxW, aAsgW, eqI2, eqI3, aLenW, aDead, bLenS, aConsN, nToL, w0s, bindWs, W0.w, oAdd, oSub, oMul, oMulW, oMod, oDiv, oDivW, oPow, oLt, oLe, oGt, oGe, oI, oIc, oEq, oNe, oIn, oIx, oCat, oAddS, oInS, oIs, oIsNot, oIsB, oIsNB, Zi.isNon, oNeg, oBits, bLen, bList, bMax2, bMin2, bMin, aIsi, aSetSl, tyN, kit_NoneType_bool, kit_NoneType_int, kit_NoneType_str, kit_NoneType_list, kit_NoneType_tuple, kit_NoneType_dict, kit_bool_bool, kit_bool_int, kit_bool_str, kit_bool_list, kit_bool_tuple, kit_bool_dict, kit_int_bool, kit_int_int, kit_int_str, kit_int_list, kit_int_tuple, kit_int_dict, kit_str_bool, kit_str_int, kit_str_str, kit_str_list, kit_str_tuple, kit_str_dict, kit_list_bool, kit_list_int, kit_list_str, kit_list_list, kit_list_tuple, kit_list_dict, kit_tuple_bool, kit_tuple_int, kit_tuple_str, kit_tuple_list, kit_tuple_tuple, kit_tuple_dict, kit_dict_bool, kit_dict_int, kit_dict_str, kit_dict_list, kit_dict_tuple, kit_dict_dict, 
  List.getElem?_cons_zero, List.getElem?_cons_succ, List.set_cons_zero, List.set_cons_succ, List.length_cons, List.length_nil, List.set_set, List.getElem?_set_self, Nat.zero_le, okD_nil, okD_str, okD_int, okD_bl, okD_non, ea0, at0, at1, at2, at3, ix0, ix1, ix2, true_and, and_true, Bool.false_eq_true, Bool.not_true, Bool.not_false, ↓reduceIte, *])
local macro_rules | `(tactic| walk_at "y") => `(tactic| simp only [aSeq, aIf, aT, aYes, aAnd, aOr, aNot, aOp, aOpL, aUn, aVar, aC, aRaw, aMove, pk, q_peek_w, q_peek_s, q_peekW_d, q_peekW_loc, q_cellD_lst, q_cellD_dic, ↓q_toW_w, q_toW_w, ↓q_toW_s, q_toW_s, ↓q_toL_w, q_toL_w, ↓q_toL_s, q_toL_s, ↓q_nToW_w, q_nToW_w, ↓q_nToW_lst, q_nToW_lst, ↓q_nToW_dic, q_nToW_dic, q_put_w, q_put_n, q_getC_loc, q_getC_s, q_putC_loc, q_putC_s, aFz, aN, aAsg, aAsgT, q_bind_nm, q_bind_tp, q_binds_nil, q_binds_cons, aRet, aRetN, aDrop, aDropN, aNext, aBreak, aCont, aAug, aSetIx, aDPut, aCall, aCons, aConsL, aNil, aLst, aTup, lstC, wsD, rCons, rNil, pks, aCB, aCBL, aBM, aBM0, isL, mAppend, mPop, mPopAt,
  aSlL, aSlT, aRevL, aNo, aSome, aAndV, aOrV, aNotV, aIfE, aChain, aDIn, aDGet, aDNew, withDic, Zi.keyOf, cut2, part32, eqD_str, inD2, all_str2, aFor, aForE, comesBack, aLc, aSortSet, aPutS, aCl, aIL, aIT, aIR1, aIR2, aIE, aIZ, aIS, wipeE, backE,
  q_cellD_dit, q_nToW_dit, q_key_int, aXGet, aXIn, aXGet1, aXNew, aXPut, aXSetd, withX, bXLen, aIXK, aIXI, aXDict, aXOne, aXDc, aXEmit, aNLen, aNEmit, aFld, aSetF, aMake, aAugS, bAll, bAny, bSum, bInt, aTupOf, aLenSet, oRep, aCallD, aCallN, aTupW, aIxW, aAsgW, eqI2, eqI3, aLenW, aDead, bLenS, aConsN, nToL, w0s, bindWs, W0.w, oAdd, oSub, oMul, oMulW, oMod, oDiv, oDivW, oPow, oLt, oLe, oGt, oGe, oI, oIc, oEq, oNe, oIn, oIx, oCat, oAddS, oInS, oIs, oIsNot, oIsB, oIsNB, Zi.isNon, oNeg, oBits, bLen, bList, bMax2, bMin2, bMin, aIsi, aSetSl, tyN, kit_NoneType_bool, kit_NoneType_int, kit_NoneType_str, kit_NoneType_list, kit_NoneType_tuple, kit_NoneType_dict, kit_bool_bool, kit_bool_int, kit_bool_str, kit_bool_list, kit_bool_tuple, kit_bool_dict, kit_int_bool, kit_int_int, kit_int_str, kit_int_list, kit_int_tuple, kit_int_dict, kit_str_bool, kit_str_int, kit_str_str, kit_str_list, kit_str_tuple, kit_str_dict, kit_list_bool, kit_list_int, kit_list_str, kit_list_list, kit_list_tuple, kit_list_dict, kit_tuple_bool, kit_tuple_int, kit_tuple_str, kit_tuple_list, kit_tuple_tuple, kit_tuple_dict, kit_dict_bool, kit_dict_int, kit_dict_str, kit_dict_list, kit_dict_tuple, kit_dict_dict, 
  List.getElem?_cons_zero, List.getElem?_cons_succ, List.set_cons_zero, List.set_cons_succ, List.length_cons, List.length_nil, List.set_set, List.getElem?_set_self, Nat.zero_le, okD_nil, okD_str, okD_int, okD_bl, okD_non, ea0, at0, at1, at2, at3, ix0, ix1, ix2, true_and, and_true, Bool.false_eq_true, Bool.not_true, Bool.not_false, ↓reduceIte, *])

section
variable {P : Program} [Zi.Wd] {K : PySem.W.Frag} {mg : Str → Option Value} {base : Heap}

def spLaw (K : PySem.W.Frag) : Sp := fun vs H Q _ => ∃ (a : Addr) (ns : List Int), vs = [.ref a] ∧ SqL K H a (ns.map V.int) ∧ ns.length ≤ 63 ∧ ∀ H', Q (.bl true) H'
theorem spLaw_imp {K : PySem.W.Frag} {C : Addr} {vs : List V} {H : Hp} {Q : VK} {E : XK} (h : spLaw K vs H Q E) : SpA 1 (sp_law K C) vs H Q E := by
  obtain ⟨a, ns, rfl, hS, _, q⟩ := h
  have sm : Same (fun x => if x = a then H x else none) H := fun x o e => by
    dsimp only at e
    split at e
    · exact e
    · cases e
  refine ⟨⟨fun _ => none, fun x => if x = a then H x else none, fun _ => a, 0⟩, [.raw (.ref a) fun F => SqL K F a (ns.map V.int)], [], fun n _ => n = .w (.d (.bl true)), fun _ _ _ => False, ?_, rfl, .cons ⟨rfl, ?_, ?_⟩ .nil, rfl, ⟨a, _, ns, rfl, fun _ h => h, fun _ => rfl⟩, ?_, fun _ _ _ h => h.elim⟩
  · exact ⟨sm, fun _ _ e => (nomatch e), fun _ _ e => (nomatch e), Ext.refl, fun _ _ h => (nomatch h), fun _ _ e => (nomatch e)⟩
  · rcases hS with (h | ⟨o, h⟩) | h
    · exact .inl (.inl ((if_pos rfl).trans h))
    · exact .inl (.inr ⟨o, (if_pos rfl).trans h⟩)
    · exact .inr h
  · exact fun _ _ s h => SqL.up s h
  · rintro n st' F' al' H' v rfl _ hv
    cases hv
    exact q H'
theorem ok_lawZ (T : Top K mg) : FnOk P w K mg base CX0 7 T.a_law T.fd_law ["_law_script"] (spLaw K) := (ok_law T).imp fun _ _ _ _ h => spLaw_imp h
end
theorem all_mk {l : PySem.W.OpenLaw} {w : World} {K : PySem.W.Frag} {h : Heap} {mg : Str → Option Value} {fa : Addr} (X : K.In h) (G : h.Ns mainGlobals mg) (hfa : mg "law" = some (.ref fa))
    {f0 : Addr} {od0 an0 : Option Addr} {sl0 : Array (Option Value)} {oc0 dc0 pm0 cd0 ct0 kV0 : Value}
    (a0 : PySem.W.nsIn K mainGlobals "is_name" = some (some (.ref f0)))
    (l0 : K.lookup f0 = some ⟨oc0, od0, .func (PySem.W.fnOf "is_name" "is_name" (defArgs s_is_name) (defBody s_is_name) (defScope s_is_name) .none kV0 dc0 pm0 an0 cd0 ct0), sl0⟩)
    (c0 : PySem.W.codeIn K cd0 "is_name" = true)
    (k0 : PySem.W.keepIn K (.ref f0) = true)
    {f1 : Addr} {od1 an1 : Option Addr} {sl1 : Array (Option Value)} {oc1 dc1 pm1 cd1 ct1 kV1 : Value}
    (a1 : PySem.W.nsIn K mainGlobals "is_exchange" = some (some (.ref f1)))
    (l1 : K.lookup f1 = some ⟨oc1, od1, .func (PySem.W.fnOf "is_exchange" "is_exchange" (defArgs s_is_exchange) (defBody s_is_exchange) (defScope s_is_exchange) .none kV1 dc1 pm1 an1 cd1 ct1), sl1⟩)
    (c1 : PySem.W.codeIn K cd1 "is_exchange" = true)
    (k1 : PySem.W.keepIn K (.ref f1) = true)
    {f2 : Addr} {od2 an2 : Option Addr} {sl2 : Array (Option Value)} {oc2 dc2 pm2 cd2 ct2 kV2 : Value}
    (a2 : PySem.W.nsIn K mainGlobals "is_number" = some (some (.ref f2)))
    (l2 : K.lookup f2 = some ⟨oc2, od2, .func (PySem.W.fnOf "is_number" "is_number" (defArgs s_is_number) (defBody s_is_number) (defScope s_is_number) .none kV2 dc2 pm2 an2 cd2 ct2), sl2⟩)
    (c2 : PySem.W.codeIn K cd2 "is_number" = true)
    (k2 : PySem.W.keepIn K (.ref f2) = true)
    {f3 : Addr} {od3 an3 : Option Addr} {sl3 : Array (Option Value)} {oc3 dc3 pm3 cd3 ct3 kV3 : Value}
    (a3 : PySem.W.nsIn K mainGlobals "are_ways" = some (some (.ref f3)))
    (l3 : K.lookup f3 = some ⟨oc3, od3, .func (PySem.W.fnOf "are_ways" "are_ways" (defArgs s_are_ways) (defBody s_are_ways) (defScope s_are_ways) .none kV3 dc3 pm3 an3 cd3 ct3), sl3⟩)
    (c3 : PySem.W.codeIn K cd3 "are_ways" = true)
    (k3 : PySem.W.keepIn K (.ref f3) = true)
    {f4 : Addr} {od4 an4 : Option Addr} {sl4 : Array (Option Value)} {oc4 dc4 pm4 cd4 ct4 kV4 : Value}
    (a4 : PySem.W.nsIn K mainGlobals "must_rows" = some (some (.ref f4)))
    (l4 : K.lookup f4 = some ⟨oc4, od4, .func (PySem.W.fnOf "must_rows" "must_rows" (defArgs s_must_rows) (defBody s_must_rows) (defScope s_must_rows) .none kV4 dc4 pm4 an4 cd4 ct4), sl4⟩)
    (c4 : PySem.W.codeIn K cd4 "must_rows" = true)
    (k4 : PySem.W.keepIn K (.ref f4) = true)
    {f5 : Addr} {od5 an5 : Option Addr} {sl5 : Array (Option Value)} {oc5 dc5 pm5 cd5 ct5 kV5 : Value}
    (a5 : PySem.W.nsIn K mainGlobals "reached" = some (some (.ref f5)))
    (l5 : K.lookup f5 = some ⟨oc5, od5, .func (PySem.W.fnOf "reached" "reached" (defArgs s_reached) (defBody s_reached) (defScope s_reached) .none kV5 dc5 pm5 an5 cd5 ct5), sl5⟩)
    (c5 : PySem.W.codeIn K cd5 "reached" = true)
    (k5 : PySem.W.keepIn K (.ref f5) = true)
    {f6 : Addr} {od6 an6 : Option Addr} {sl6 : Array (Option Value)} {oc6 dc6 pm6 cd6 ct6 kV6 : Value}
    (a6 : PySem.W.nsIn K mainGlobals "renumbered" = some (some (.ref f6)))
    (l6 : K.lookup f6 = some ⟨oc6, od6, .func (PySem.W.fnOf "renumbered" "renumbered" (defArgs s_renumbered) (defBody s_renumbered) (defScope s_renumbered) .none kV6 dc6 pm6 an6 cd6 ct6), sl6⟩)
    (c6 : PySem.W.codeIn K cd6 "renumbered" = true)
    (k6 : PySem.W.keepIn K (.ref f6) = true)
    {f7 : Addr} {od7 an7 : Option Addr} {sl7 : Array (Option Value)} {oc7 dc7 pm7 cd7 ct7 kV7 : Value}
    (a7 : PySem.W.nsIn K mainGlobals "classes_of" = some (some (.ref f7)))
    (l7 : K.lookup f7 = some ⟨oc7, od7, .func (PySem.W.fnOf "classes_of" "classes_of" (defArgs s_classes_of) (defBody s_classes_of) (defScope s_classes_of) .none kV7 dc7 pm7 an7 cd7 ct7), sl7⟩)
    (c7 : PySem.W.codeIn K cd7 "classes_of" = true)
    (k7 : PySem.W.keepIn K (.ref f7) = true)
    {f8 : Addr} {od8 an8 : Option Addr} {sl8 : Array (Option Value)} {oc8 dc8 pm8 cd8 ct8 kV8 : Value}
    (a8 : PySem.W.nsIn K mainGlobals "least" = some (some (.ref f8)))
    (l8 : K.lookup f8 = some ⟨oc8, od8, .func (PySem.W.fnOf "least" "least" (defArgs s_least) (defBody s_least) (defScope s_least) .none kV8 dc8 pm8 an8 cd8 ct8), sl8⟩)
    (c8 : PySem.W.codeIn K cd8 "least" = true)
    (k8 : PySem.W.keepIn K (.ref f8) = true)
    {f9 : Addr} {od9 an9 : Option Addr} {sl9 : Array (Option Value)} {oc9 dc9 pm9 cd9 ct9 kV9 : Value}
    (a9 : PySem.W.nsIn K mainGlobals "renumbered_from" = some (some (.ref f9)))
    (l9 : K.lookup f9 = some ⟨oc9, od9, .func (PySem.W.fnOf "renumbered_from" "renumbered_from" (defArgs s_renumbered_from) (defBody s_renumbered_from) (defScope s_renumbered_from) .none kV9 dc9 pm9 an9 cd9 ct9), sl9⟩)
    (c9 : PySem.W.codeIn K cd9 "renumbered_from" = true)
    (k9 : PySem.W.keepIn K (.ref f9) = true)
    {f10 : Addr} {od10 an10 : Option Addr} {sl10 : Array (Option Value)} {oc10 dc10 pm10 cd10 ct10 kV10 : Value}
    {D_Machine : Addr}
    (n_Machine : PySem.W.nsIn K mainGlobals "Machine" = some (some (.ref D_Machine)))
    (a10 : PySem.W.findIn K (.ref D_Machine) "__init__" = some (some (.ref f10)))
    (l10 : K.lookup f10 = some ⟨oc10, od10, .func (PySem.W.fnOf "__init__" "Machine.__init__" (defArgs s_Machine___init__) (defBody s_Machine___init__) (defScope s_Machine___init__) .none kV10 dc10 pm10 an10 cd10 ct10), sl10⟩)
    (c10 : PySem.W.codeIn K cd10 "Machine.__init__" = true)
    (k10 : PySem.W.keepIn K (.ref f10) = true)
    {f11 : Addr} {od11 an11 : Option Addr} {sl11 : Array (Option Value)} {oc11 dc11 pm11 cd11 ct11 : Value}
    (a11 : PySem.W.nsIn K mainGlobals "count_of" = some (some (.ref f11)))
    {kD11 : Addr}
    (l11 : K.lookup f11 = some ⟨oc11, od11, .func (PySem.W.fnOf "count_of" "count_of" (defArgs s_count_of) (defBody s_count_of) (defScope s_count_of) .none (.ref kD11) dc11 pm11 an11 cd11 ct11), sl11⟩)
    (w11_whole : PySem.W.nsIn K kD11 "whole" = some (some (.bool false)))
    (c11 : PySem.W.codeIn K cd11 "count_of" = true)
    (k11 : PySem.W.keepIn K (.ref f11) = true)
    {f12 : Addr} {od12 an12 : Option Addr} {sl12 : Array (Option Value)} {oc12 dc12 pm12 cd12 ct12 : Value}
    (a12 : PySem.W.nsIn K mainGlobals "shortest" = some (some (.ref f12)))
    {kD12 : Addr}
    (l12 : K.lookup f12 = some ⟨oc12, od12, .func (PySem.W.fnOf "shortest" "shortest" (defArgs s_shortest) (defBody s_shortest) (defScope s_shortest) .none (.ref kD12) dc12 pm12 an12 cd12 ct12), sl12⟩)
    (w12_whole : PySem.W.nsIn K kD12 "whole" = some (some (.bool true)))
    (c12 : PySem.W.codeIn K cd12 "shortest" = true)
    (k12 : PySem.W.keepIn K (.ref f12) = true)
    {f13 : Addr} {od13 an13 : Option Addr} {sl13 : Array (Option Value)} {oc13 dc13 pm13 cd13 ct13 kV13 : Value}
    (a13 : PySem.W.nsIn K mainGlobals "_law_at" = some (some (.ref f13)))
    (l13 : K.lookup f13 = some ⟨oc13, od13, .func (PySem.W.fnOf "_law_at" "_law_at" (defArgs s_law_at) (defBody s_law_at) (defScope s_law_at) .none kV13 dc13 pm13 an13 cd13 ct13), sl13⟩)
    (c13 : PySem.W.codeIn K cd13 "_law_at" = true)
    (k13 : PySem.W.keepIn K (.ref f13) = true)
    {f14 : Addr} {od14 an14 : Option Addr} {sl14 : Array (Option Value)} {oc14 dc14 pm14 cd14 ct14 kV14 : Value}
    (a14 : PySem.W.nsIn K mainGlobals "_law_mixed" = some (some (.ref f14)))
    (l14 : K.lookup f14 = some ⟨oc14, od14, .func (PySem.W.fnOf "_law_mixed" "_law_mixed" (defArgs s_law_mixed) (defBody s_law_mixed) (defScope s_law_mixed) .none kV14 dc14 pm14 an14 cd14 ct14), sl14⟩)
    (c14 : PySem.W.codeIn K cd14 "_law_mixed" = true)
    (k14 : PySem.W.keepIn K (.ref f14) = true)
    {f15 : Addr} {od15 an15 : Option Addr} {sl15 : Array (Option Value)} {oc15 dc15 pm15 cd15 ct15 kV15 : Value}
    (a15 : PySem.W.nsIn K mainGlobals "_law_purse" = some (some (.ref f15)))
    (l15 : K.lookup f15 = some ⟨oc15, od15, .func (PySem.W.fnOf "_law_purse" "_law_purse" (defArgs s_law_purse) (defBody s_law_purse) (defScope s_law_purse) .none kV15 dc15 pm15 an15 cd15 ct15), sl15⟩)
    (c15 : PySem.W.codeIn K cd15 "_law_purse" = true)
    (k15 : PySem.W.keepIn K (.ref f15) = true)
    {f16 : Addr} {od16 an16 : Option Addr} {sl16 : Array (Option Value)} {oc16 dc16 pm16 cd16 ct16 kV16 : Value}
    (a16 : PySem.W.nsIn K mainGlobals "_law_draw" = some (some (.ref f16)))
    (l16 : K.lookup f16 = some ⟨oc16, od16, .func (PySem.W.fnOf "_law_draw" "_law_draw" (defArgs s_law_draw) (defBody s_law_draw) (defScope s_law_draw) .none kV16 dc16 pm16 an16 cd16 ct16), sl16⟩)
    (c16 : PySem.W.codeIn K cd16 "_law_draw" = true)
    (k16 : PySem.W.keepIn K (.ref f16) = true)
    {f17 : Addr} {od17 an17 : Option Addr} {sl17 : Array (Option Value)} {oc17 dc17 pm17 cd17 ct17 kV17 : Value}
    (a17 : PySem.W.nsIn K mainGlobals "_law_whole_number" = some (some (.ref f17)))
    (l17 : K.lookup f17 = some ⟨oc17, od17, .func (PySem.W.fnOf "_law_whole_number" "_law_whole_number" (defArgs s_law_whole_number) (defBody s_law_whole_number) (defScope s_law_whole_number) .none kV17 dc17 pm17 an17 cd17 ct17), sl17⟩)
    (c17 : PySem.W.codeIn K cd17 "_law_whole_number" = true)
    (k17 : PySem.W.keepIn K (.ref f17) = true)
    {f18 : Addr} {od18 an18 : Option Addr} {sl18 : Array (Option Value)} {oc18 dc18 pm18 cd18 ct18 kV18 : Value}
    (a18 : PySem.W.nsIn K mainGlobals "_law_order" = some (some (.ref f18)))
    (l18 : K.lookup f18 = some ⟨oc18, od18, .func (PySem.W.fnOf "_law_order" "_law_order" (defArgs s_law_order) (defBody s_law_order) (defScope s_law_order) .none kV18 dc18 pm18 an18 cd18 ct18), sl18⟩)
    (c18 : PySem.W.codeIn K cd18 "_law_order" = true)
    (k18 : PySem.W.keepIn K (.ref f18) = true)
    {f19 : Addr} {od19 an19 : Option Addr} {sl19 : Array (Option Value)} {oc19 dc19 pm19 cd19 ct19 kV19 : Value}
    (a19 : PySem.W.nsIn K mainGlobals "_law_names" = some (some (.ref f19)))
    (l19 : K.lookup f19 = some ⟨oc19, od19, .func (PySem.W.fnOf "_law_names" "_law_names" (defArgs s_law_names) (defBody s_law_names) (defScope s_law_names) .none kV19 dc19 pm19 an19 cd19 ct19), sl19⟩)
    (c19 : PySem.W.codeIn K cd19 "_law_names" = true)
    (k19 : PySem.W.keepIn K (.ref f19) = true)
    {f20 : Addr} {od20 an20 : Option Addr} {sl20 : Array (Option Value)} {oc20 dc20 pm20 cd20 ct20 kV20 : Value}
    (a20 : PySem.W.nsIn K mainGlobals "_law_table" = some (some (.ref f20)))
    (l20 : K.lookup f20 = some ⟨oc20, od20, .func (PySem.W.fnOf "_law_table" "_law_table" (defArgs s_law_table) (defBody s_law_table) (defScope s_law_table) .none kV20 dc20 pm20 an20 cd20 ct20), sl20⟩)
    (c20 : PySem.W.codeIn K cd20 "_law_table" = true)
    (k20 : PySem.W.keepIn K (.ref f20) = true)
    {f21 : Addr} {od21 an21 : Option Addr} {sl21 : Array (Option Value)} {oc21 dc21 pm21 cd21 ct21 kV21 : Value}
    (a21 : PySem.W.nsIn K mainGlobals "_law_exchanges" = some (some (.ref f21)))
    (l21 : K.lookup f21 = some ⟨oc21, od21, .func (PySem.W.fnOf "_law_exchanges" "_law_exchanges" (defArgs s_law_exchanges) (defBody s_law_exchanges) (defScope s_law_exchanges) .none kV21 dc21 pm21 an21 cd21 ct21), sl21⟩)
    (c21 : PySem.W.codeIn K cd21 "_law_exchanges" = true)
    (k21 : PySem.W.keepIn K (.ref f21) = true)
    {f22 : Addr} {od22 an22 : Option Addr} {sl22 : Array (Option Value)} {oc22 dc22 pm22 cd22 ct22 kV22 : Value}
    (a22 : PySem.W.nsIn K mainGlobals "_law_machine_rows" = some (some (.ref f22)))
    (l22 : K.lookup f22 = some ⟨oc22, od22, .func (PySem.W.fnOf "_law_machine_rows" "_law_machine_rows" (defArgs s_law_machine_rows) (defBody s_law_machine_rows) (defScope s_law_machine_rows) .none kV22 dc22 pm22 an22 cd22 ct22), sl22⟩)
    (c22 : PySem.W.codeIn K cd22 "_law_machine_rows" = true)
    (k22 : PySem.W.keepIn K (.ref f22) = true)
    {f23 : Addr} {od23 an23 : Option Addr} {sl23 : Array (Option Value)} {oc23 dc23 pm23 cd23 ct23 kV23 : Value}
    (a23 : PySem.W.nsIn K mainGlobals "_law_all_of" = some (some (.ref f23)))
    (l23 : K.lookup f23 = some ⟨oc23, od23, .func (PySem.W.fnOf "_law_all_of" "_law_all_of" (defArgs s_law_all_of) (defBody s_law_all_of) (defScope s_law_all_of) .none kV23 dc23 pm23 an23 cd23 ct23), sl23⟩)
    (c23 : PySem.W.codeIn K cd23 "_law_all_of" = true)
    (k23 : PySem.W.keepIn K (.ref f23) = true)
    {f24 : Addr} {od24 an24 : Option Addr} {sl24 : Array (Option Value)} {oc24 dc24 pm24 cd24 ct24 kV24 : Value}
    (a24 : PySem.W.nsIn K mainGlobals "_law_counted" = some (some (.ref f24)))
    (l24 : K.lookup f24 = some ⟨oc24, od24, .func (PySem.W.fnOf "_law_counted" "_law_counted" (defArgs s_law_counted) (defBody s_law_counted) (defScope s_law_counted) .none kV24 dc24 pm24 an24 cd24 ct24), sl24⟩)
    (c24 : PySem.W.codeIn K cd24 "_law_counted" = true)
    (k24 : PySem.W.keepIn K (.ref f24) = true)
    {f25 : Addr} {od25 an25 : Option Addr} {sl25 : Array (Option Value)} {oc25 dc25 pm25 cd25 ct25 kV25 : Value}
    (a25 : PySem.W.nsIn K mainGlobals "_law_first_whole" = some (some (.ref f25)))
    (l25 : K.lookup f25 = some ⟨oc25, od25, .func (PySem.W.fnOf "_law_first_whole" "_law_first_whole" (defArgs s_law_first_whole) (defBody s_law_first_whole) (defScope s_law_first_whole) .none kV25 dc25 pm25 an25 cd25 ct25), sl25⟩)
    (c25 : PySem.W.codeIn K cd25 "_law_first_whole" = true)
    (k25 : PySem.W.keepIn K (.ref f25) = true)
    {f26 : Addr} {od26 an26 : Option Addr} {sl26 : Array (Option Value)} {oc26 dc26 pm26 cd26 ct26 kV26 : Value}
    (a26 : PySem.W.nsIn K mainGlobals "_law_counts_right" = some (some (.ref f26)))
    (l26 : K.lookup f26 = some ⟨oc26, od26, .func (PySem.W.fnOf "_law_counts_right" "_law_counts_right" (defArgs s_law_counts_right) (defBody s_law_counts_right) (defScope s_law_counts_right) .none kV26 dc26 pm26 an26 cd26 ct26), sl26⟩)
    (c26 : PySem.W.codeIn K cd26 "_law_counts_right" = true)
    (k26 : PySem.W.keepIn K (.ref f26) = true)
    {f27 : Addr} {od27 an27 : Option Addr} {sl27 : Array (Option Value)} {oc27 dc27 pm27 cd27 ct27 kV27 : Value}
    (a27 : PySem.W.nsIn K mainGlobals "law" = some (some (.ref f27)))
    (l27 : K.lookup f27 = some ⟨oc27, od27, .func (PySem.W.fnOf "law" "law" (defArgs s_law) (defBody s_law) (defScope s_law) .none kV27 dc27 pm27 an27 cd27 ct27), sl27⟩)
    (c27 : PySem.W.codeIn K cd27 "law" = true)
    (k27 : PySem.W.keepIn K (.ref f27) = true)
    (mk_Machine : PySem.W.makesIn K D_Machine = true)
    (kp_Machine : PySem.W.keepIn K (.ref D_Machine) = true)
    (fn_Machine : PySem.W.isFn K (.ref f10) = true)
    (pg_Machine : PySem.W.plainGet K D_Machine Str.empty = true)
    (hd_Machine : PySem.W.hasDictIn K D_Machine = true)
    (po_Machine : PySem.W.plainOver K D_Machine = true)
    (sa_Machine : PySem.W.findIn K (.ref D_Machine) "__setattr__" = some (some (.builtin "object.__setattr__")))
    (na_Machine_states : PySem.W.findIn K (.ref D_Machine) "states" = some none)
    {ct_LETTERS : Tok}
    (c_LETTERS : PySem.W.nsIn K mainGlobals "LETTERS" = some (some (.str "abcdefghijklmnopqrstuvwxyz" ct_LETTERS)))
    {ct_MOST_LETTERS : Tok}
    (c_MOST_LETTERS : PySem.W.nsIn K mainGlobals "MOST_LETTERS" = some (some (.int 8 ct_MOST_LETTERS)))
    {ct_MOST_STATES : Tok}
    (c_MOST_STATES : PySem.W.nsIn K mainGlobals "MOST_STATES" = some (some (.int 400 ct_MOST_STATES)))
    (z0 : PySem.W.nsIn K mainGlobals "all" = some none)
    (z1 : PySem.W.nsIn K mainGlobals "bool" = some none)
    (z2 : PySem.W.nsIn K mainGlobals "dict" = some none)
    (z3 : PySem.W.nsIn K mainGlobals "enumerate" = some none)
    (z4 : PySem.W.nsIn K mainGlobals "int" = some none)
    (z5 : PySem.W.nsIn K mainGlobals "isinstance" = some none)
    (z6 : PySem.W.nsIn K mainGlobals "len" = some none)
    (z7 : PySem.W.nsIn K mainGlobals "list" = some none)
    (z8 : PySem.W.nsIn K mainGlobals "max" = some none)
    (z9 : PySem.W.nsIn K mainGlobals "min" = some none)
    (z10 : PySem.W.nsIn K mainGlobals "range" = some none)
    (z11 : PySem.W.nsIn K mainGlobals "set" = some none)
    (z12 : PySem.W.nsIn K mainGlobals "sorted" = some none)
    (z13 : PySem.W.nsIn K mainGlobals "str" = some none)
    (z14 : PySem.W.nsIn K mainGlobals "sum" = some none)
    (z15 : PySem.W.nsIn K mainGlobals "tuple" = some none)
    (z16 : PySem.W.nsIn K mainGlobals "zip" = some none)
    : ∃ fd : FuncData, (∀ (s : Shared) (v : Value), BindsTo s fd ⟨[v], []⟩ [("_law_script", v)]) ∧ ∀ base : Heap, K.In base → base.Ns mainGlobals mg → FnOk l.prog w K mg base CX0 7 fa fd ["_law_script"] (spLaw K) := by
  letI : Zi.Wd := ⟨w⟩
  have e := hfa.symm.trans (PySem.W.mg_of X G a27)
  cases e
  have F0 := fun_mk (st := s_is_name) l0 c0 k0
  have b0 := F0.binds (ps := ["thing"]) fun _ _ _ _ _ _ us hl => match us, hl with | [_], _ => rfl
  have F1 := fun_mk (st := s_is_exchange) l1 c1 k1
  have b1 := F1.binds (ps := ["thing"]) fun _ _ _ _ _ _ us hl => match us, hl with | [_], _ => rfl
  have F2 := fun_mk (st := s_is_number) l2 c2 k2
  have b2 := F2.binds (ps := ["thing", "count"]) fun _ _ _ _ _ _ us hl => match us, hl with | [_, _], _ => rfl
  have F3 := fun_mk (st := s_are_ways) l3 c3 k3
  have b3 := F3.binds (ps := ["ways", "count"]) fun _ _ _ _ _ _ us hl => match us, hl with | [_, _], _ => rfl
  have F4 := fun_mk (st := s_must_rows) l4 c4 k4
  have b4 := F4.binds (ps := ["rows"]) fun _ _ _ _ _ _ us hl => match us, hl with | [_], _ => rfl
  have F5 := fun_mk (st := s_reached) l5 c5 k5
  have b5 := F5.binds (ps := ["rows"]) fun _ _ _ _ _ _ us hl => match us, hl with | [_], _ => rfl
  have F6 := fun_mk (st := s_renumbered) l6 c6 k6
  have b6 := F6.binds (ps := ["rows"]) fun _ _ _ _ _ _ us hl => match us, hl with | [_], _ => rfl
  have F7 := fun_mk (st := s_classes_of) l7 c7 k7
  have b7 := F7.binds (ps := ["rows"]) fun _ _ _ _ _ _ us hl => match us, hl with | [_], _ => rfl
  have F8 := fun_mk (st := s_least) l8 c8 k8
  have b8 := F8.binds (ps := ["rows"]) fun _ _ _ _ _ _ us hl => match us, hl with | [_], _ => rfl
  have F9 := fun_mk (st := s_renumbered_from) l9 c9 k9
  have b9 := F9.binds (ps := ["merged", "start"]) fun _ _ _ _ _ _ us hl => match us, hl with | [_, _], _ => rfl
  have F10 := fun_mk (st := s_Machine___init__) l10 c10 k10
  have b10 := F10.binds (ps := ["self", "rows"]) fun _ _ _ _ _ _ us hl => match us, hl with | [_, _], _ => rfl
  have F11 : FunD K "count_of" "count_of" (defArgs s_count_of) (defBody s_count_of) (defScope s_count_of) [] [("whole", V.bl false)] f11 _ := ⟨⟨_, _, _, _, _, _, _, _, _, _, rfl, l11, c11, .inl ⟨rfl, rfl⟩, .inr ⟨kD11, rfl, fun q hq => by rw [List.mem_singleton.mp hq]; exact ⟨_, w11_whole, rfl⟩⟩⟩, k11⟩
  have d11 := F11.binds0 (ps := ["machine", "length", "whole"]) 2 (by simp) rfl (fun D doc pm an cdv ct us ks l1 l2 => match us, ks, l1, l2 with | [_, _], [_], _, _ => ⟨_, _, _, _, _, _, rfl, rfl, rfl⟩)
  have e11 := kb_all (ps := ["machine", "length", "whole"]) (ks := ["whole"]) F11 2 (fun kV doc pm an cdv ct us ws l1 l2 => match us, ws, l1, l2 with | [_, _], [_], _, _ => rfl)
  have F12 : FunD K "shortest" "shortest" (defArgs s_shortest) (defBody s_shortest) (defScope s_shortest) [] [("whole", V.bl true)] f12 _ := ⟨⟨_, _, _, _, _, _, _, _, _, _, rfl, l12, c12, .inl ⟨rfl, rfl⟩, .inr ⟨kD12, rfl, fun q hq => by rw [List.mem_singleton.mp hq]; exact ⟨_, w12_whole, rfl⟩⟩⟩, k12⟩
  have d12 := F12.binds0 (ps := ["machine", "whole"]) 1 (by simp) rfl (fun D doc pm an cdv ct us ks l1 l2 => match us, ks, l1, l2 with | [_], [_], _, _ => ⟨_, _, _, _, _, _, rfl, rfl, rfl⟩)
  have e12 := kb_all (ps := ["machine", "whole"]) (ks := ["whole"]) F12 1 (fun kV doc pm an cdv ct us ws l1 l2 => match us, ws, l1, l2 with | [_], [_], _, _ => rfl)
  have F13 := fun_mk (st := s_law_at) l13 c13 k13
  have b13 := F13.binds (ps := ["_law_script", "_law_k"]) fun _ _ _ _ _ _ us hl => match us, hl with | [_, _], _ => rfl
  have F14 := fun_mk (st := s_law_mixed) l14 c14 k14
  have b14 := F14.binds (ps := ["_law_cell", "_law_k"]) fun _ _ _ _ _ _ us hl => match us, hl with | [_, _], _ => rfl
  have F15 := fun_mk (st := s_law_purse) l15 c15 k15
  have b15 := F15.binds (ps := ["_law_script", "_law_at_here"]) fun _ _ _ _ _ _ us hl => match us, hl with | [_, _], _ => rfl
  have F16 := fun_mk (st := s_law_draw) l16 c16 k16
  have b16 := F16.binds (ps := ["_law_purse_here", "_law_out_of"]) fun _ _ _ _ _ _ us hl => match us, hl with | [_, _], _ => rfl
  have F17 := fun_mk (st := s_law_whole_number) l17 c17 k17
  have b17 := F17.binds (ps := ["_law_found"]) fun _ _ _ _ _ _ us hl => match us, hl with | [_], _ => rfl
  have F18 := fun_mk (st := s_law_order) l18 c18 k18
  have b18 := F18.binds (ps := ["_law_purse_here", "_law_some"]) fun _ _ _ _ _ _ us hl => match us, hl with | [_, _], _ => rfl
  have F19 := fun_mk (st := s_law_names) l19 c19 k19
  have b19 := F19.binds (ps := ["_law_purse_here", "_law_many"]) fun _ _ _ _ _ _ us hl => match us, hl with | [_, _], _ => rfl
  have F20 := fun_mk (st := s_law_table) l20 c20 k20
  have b20 := F20.binds (ps := ["_law_rows"]) fun _ _ _ _ _ _ us hl => match us, hl with | [_], _ => rfl
  have F21 := fun_mk (st := s_law_exchanges) l21 c21 k21
  have b21 := F21.binds (ps := ["_law_purse_here", "_law_people"]) fun _ _ _ _ _ _ us hl => match us, hl with | [_, _], _ => rfl
  have F22 := fun_mk (st := s_law_machine_rows) l22 c22 k22
  have b22 := F22.binds (ps := ["_law_purse_here", "_law_people", "_law_most"]) fun _ _ _ _ _ _ us hl => match us, hl with | [_, _, _], _ => rfl
  have F23 := fun_mk (st := s_law_all_of) l23 c23 k23
  have b23 := F23.binds (ps := ["_law_table_here", "_law_length_here"]) fun _ _ _ _ _ _ us hl => match us, hl with | [_, _], _ => rfl
  have F24 := fun_mk (st := s_law_counted) l24 c24 k24
  have b24 := F24.binds (ps := ["_law_table_here", "_law_length_here", "_law_to_end"]) fun _ _ _ _ _ _ us hl => match us, hl with | [_, _, _], _ => rfl
  have F25 := fun_mk (st := s_law_first_whole) l25 c25 k25
  have b25 := F25.binds (ps := ["_law_table_here"]) fun _ _ _ _ _ _ us hl => match us, hl with | [_], _ => rfl
  have F26 := fun_mk (st := s_law_counts_right) l26 c26 k26
  have b26 := F26.binds (ps := ["_law_machine_here", "_law_table_here", "_law_length_here"]) fun _ _ _ _ _ _ us hl => match us, hl with | [_, _, _], _ => rfl
  have F27 := fun_mk (st := s_law) l27 c27 k27
  have b27 := F27.binds (ps := ["_law_script"]) fun _ _ _ _ _ _ us hl => match us, hl with | [_], _ => rfl
  exact ⟨PySem.W.fnOf "law" "law" (defArgs s_law) (defBody s_law) (defScope s_law) .none kV27 dc27 pm27 an27 cd27 ct27, fun s v => .of_eq rfl, fun base _ _ => ok_lawZ ⟨_, _, F0, b0, PySem.W.mg_of X G a0, _, _, F1, b1, PySem.W.mg_of X G a1, _, _, F2, b2, PySem.W.mg_of X G a2, _, _, F3, b3, PySem.W.mg_of X G a3, _, _, F4, b4, PySem.W.mg_of X G a4, _, _, F5, b5, PySem.W.mg_of X G a5, _, _, F6, b6, PySem.W.mg_of X G a6, _, _, F7, b7, PySem.W.mg_of X G a7, _, _, F8, b8, PySem.W.mg_of X G a8, _, _, F9, b9, PySem.W.mg_of X G a9, _, _, F10, b10, _, _, F11, d11, e11, PySem.W.mg_of X G a11, _, _, F12, d12, e12, PySem.W.mg_of X G a12, _, _, F13, b13, PySem.W.mg_of X G a13, _, _, F14, b14, PySem.W.mg_of X G a14, _, _, F15, b15, PySem.W.mg_of X G a15, _, _, F16, b16, PySem.W.mg_of X G a16, _, _, F17, b17, PySem.W.mg_of X G a17, _, _, F18, b18, PySem.W.mg_of X G a18, _, _, F19, b19, PySem.W.mg_of X G a19, _, _, F20, b20, PySem.W.mg_of X G a20, _, _, F21, b21, PySem.W.mg_of X G a21, _, _, F22, b22, PySem.W.mg_of X G a22, _, _, F23, b23, PySem.W.mg_of X G a23, _, _, F24, b24, PySem.W.mg_of X G a24, _, _, F25, b25, PySem.W.mg_of X G a25, _, _, F26, b26, PySem.W.mg_of X G a26, _, _, F27, b27, PySem.W.mg_of X G a27, _, PySem.W.mg_of X G n_Machine, ⟨mk_Machine, a10, fn_Machine, kp_Machine⟩, ⟨pg_Machine, hd_Machine, po_Machine, sa_Machine⟩, na_Machine_states, _, PySem.W.mg_of X G c_LETTERS, _, PySem.W.mg_of X G c_MOST_LETTERS, _, PySem.W.mg_of X G c_MOST_STATES, PySem.W.mg_none_of X G z0, PySem.W.mg_none_of X G z1, PySem.W.mg_none_of X G z2, PySem.W.mg_none_of X G z3, PySem.W.mg_none_of X G z4, PySem.W.mg_none_of X G z5, PySem.W.mg_none_of X G z6, PySem.W.mg_none_of X G z7, PySem.W.mg_none_of X G z8, PySem.W.mg_none_of X G z9, PySem.W.mg_none_of X G z10, PySem.W.mg_none_of X G z11, PySem.W.mg_none_of X G z12, PySem.W.mg_none_of X G z13, PySem.W.mg_none_of X G z14, PySem.W.mg_none_of X G z15, PySem.W.mg_none_of X G z16⟩⟩
end K13
open PySem PySem.W PyProof.Rows
set_option maxRecDepth 100000 in
set_option maxHeartbeats 0 in
theorem PySem.Challenge.cw_talkwatch_k13_counts_and_shortest_holds : PySem.Challenge.rw_talkwatch_k13_counts_and_shortest.Holds := by
  w_on; o_law; k_head; (case hw => w_witness2)
  k_fill
  refine L2.walk_of (l := PySem.Challenge.rw_talkwatch_k13_counts_and_shortest) (n := 63) (k := 7) (x := "_law_script") (CX := fun _ => L2.CX0) (sp := fun w => K13.spLaw _) rfl (by decide) rfl ⟨rfl, by decide, by decide⟩ (fun w h Y => PySem.W.kIn_of Y) ?F (fun _ _ a ns hl _ hS => ⟨a, ns, rfl, hS, hl, fun _ => rfl⟩) (fun _ _ _ _ _ h => h)
  case F =>
    intro w mg fa h KX G hmg
    refine' K13.all_mk KX G hmg ?a0 ?l0 ?c0 ?k0 ?a1 ?l1 ?c1 ?k1 ?a2 ?l2 ?c2 ?k2 ?a3 ?l3 ?c3 ?k3 ?a4 ?l4 ?c4 ?k4 ?a5 ?l5 ?c5 ?k5 ?a6 ?l6 ?c6 ?k6 ?a7 ?l7 ?c7 ?k7 ?a8 ?l8 ?c8 ?k8 ?a9 ?l9 ?c9 ?k9 ?n_Machine ?a10 ?l10 ?c10 ?k10 ?a11 ?l11 ?w11_whole ?c11 ?k11 ?a12 ?l12 ?w12_whole ?c12 ?k12 ?a13 ?l13 ?c13 ?k13 ?a14 ?l14 ?c14 ?k14 ?a15 ?l15 ?c15 ?k15 ?a16 ?l16 ?c16 ?k16 ?a17 ?l17 ?c17 ?k17 ?a18 ?l18 ?c18 ?k18 ?a19 ?l19 ?c19 ?k19 ?a20 ?l20 ?c20 ?k20 ?a21 ?l21 ?c21 ?k21 ?a22 ?l22 ?c22 ?k22 ?a23 ?l23 ?c23 ?k23 ?a24 ?l24 ?c24 ?k24 ?a25 ?l25 ?c25 ?k25 ?a26 ?l26 ?c26 ?k26 ?a27 ?l27 ?c27 ?k27 ?mk_Machine ?kp_Machine ?fn_Machine ?pg_Machine ?hd_Machine ?po_Machine ?sa_Machine ?na_Machine_states ?c_LETTERS ?c_MOST_LETTERS ?c_MOST_STATES ?z0 ?z1 ?z2 ?z3 ?z4 ?z5 ?z6 ?z7 ?z8 ?z9 ?z10 ?z11 ?z12 ?z13 ?z14 ?z15 ?z16
    (case a0 => k_is)
    (case l0 => k_is)
    (case c0 => k_is)
    (case k0 => k_is)
    (case a1 => k_is)
    (case l1 => k_is)
    (case c1 => k_is)
    (case k1 => k_is)
    (case a2 => k_is)
    (case l2 => k_is)
    (case c2 => k_is)
    (case k2 => k_is)
    (case a3 => k_is)
    (case l3 => k_is)
    (case c3 => k_is)
    (case k3 => k_is)
    (case a4 => k_is)
    (case l4 => k_is)
    (case c4 => k_is)
    (case k4 => k_is)
    (case a5 => k_is)
    (case l5 => k_is)
    (case c5 => k_is)
    (case k5 => k_is)
    (case a6 => k_is)
    (case l6 => k_is)
    (case c6 => k_is)
    (case k6 => k_is)
    (case a7 => k_is)
    (case l7 => k_is)
    (case c7 => k_is)
    (case k7 => k_is)
    (case a8 => k_is)
    (case l8 => k_is)
    (case c8 => k_is)
    (case k8 => k_is)
    (case a9 => k_is)
    (case l9 => k_is)
    (case c9 => k_is)
    (case k9 => k_is)
    (case n_Machine => k_is)
    (case a10 => k_is)
    (case l10 => k_is)
    (case c10 => k_is)
    (case k10 => k_is)
    (case a11 => k_is)
    (case l11 => k_is)
    (case w11_whole => k_is)
    (case c11 => k_is)
    (case k11 => k_is)
    (case a12 => k_is)
    (case l12 => k_is)
    (case w12_whole => k_is)
    (case c12 => k_is)
    (case k12 => k_is)
    (case a13 => k_is)
    (case l13 => k_is)
    (case c13 => k_is)
    (case k13 => k_is)
    (case a14 => k_is)
    (case l14 => k_is)
    (case c14 => k_is)
    (case k14 => k_is)
    (case a15 => k_is)
    (case l15 => k_is)
    (case c15 => k_is)
    (case k15 => k_is)
    (case a16 => k_is)
    (case l16 => k_is)
    (case c16 => k_is)
    (case k16 => k_is)
    (case a17 => k_is)
    (case l17 => k_is)
    (case c17 => k_is)
    (case k17 => k_is)
    (case a18 => k_is)
    (case l18 => k_is)
    (case c18 => k_is)
    (case k18 => k_is)
    (case a19 => k_is)
    (case l19 => k_is)
    (case c19 => k_is)
    (case k19 => k_is)
    (case a20 => k_is)
    (case l20 => k_is)
    (case c20 => k_is)
    (case k20 => k_is)
    (case a21 => k_is)
    (case l21 => k_is)
    (case c21 => k_is)
    (case k21 => k_is)
    (case a22 => k_is)
    (case l22 => k_is)
    (case c22 => k_is)
    (case k22 => k_is)
    (case a23 => k_is)
    (case l23 => k_is)
    (case c23 => k_is)
    (case k23 => k_is)
    (case a24 => k_is)
    (case l24 => k_is)
    (case c24 => k_is)
    (case k24 => k_is)
    (case a25 => k_is)
    (case l25 => k_is)
    (case c25 => k_is)
    (case k25 => k_is)
    (case a26 => k_is)
    (case l26 => k_is)
    (case c26 => k_is)
    (case k26 => k_is)
    (case a27 => k_is)
    (case l27 => k_is)
    (case c27 => k_is)
    (case k27 => k_is)
    (case mk_Machine => kernel_rfl)
    (case kp_Machine => k_is)
    (case fn_Machine => kernel_rfl)
    (case pg_Machine => kernel_rfl)
    (case hd_Machine => kernel_rfl)
    (case po_Machine => kernel_rfl)
    (case sa_Machine => k_is)
    (case na_Machine_states => k_is)
    (case c_LETTERS => k_is)
    (case c_MOST_LETTERS => k_is)
    (case c_MOST_STATES => k_is)
    (case z0 => k_is)
    (case z1 => k_is)
    (case z2 => k_is)
    (case z3 => k_is)
    (case z4 => k_is)
    (case z5 => k_is)
    (case z6 => k_is)
    (case z7 => k_is)
    (case z8 => k_is)
    (case z9 => k_is)
    (case z10 => k_is)
    (case z11 => k_is)
    (case z12 => k_is)
    (case z13 => k_is)
    (case z14 => k_is)
    (case z15 => k_is)
    (case z16 => k_is)
