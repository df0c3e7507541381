import PyProof.Rows.All
import Wide.All
import OpenK.AllK
import Wide.FinOn
import HandS.ForMost
import HandS.ForExc
import HandS.Flow
import HandS.IsInst
import HandS.Defaults
import HandS.Steps
import HandS.Style
import HandS.HeadHook2
import HandS.HeadEnd
import HandS.Head0
import HandS.Head1
import HandS.Head2
import HandS.HeadHook1
import HandS.More
import KE.KStateDown
import PySem.Challenge.RW_lastkind_k01_names_and_kinds
set_option Elab.async false
set_option linter.all false
set_option maxRecDepth 100000
set_option maxHeartbeats 0
namespace Lk
open PySem PySem.Spec PyProof.Rows L2

/-! ### the weakest readings -/
def ED (X : Cx) (e : Expr) : TE := fun σ H Q => ∀ (pins : List (Addr × Obj)) (s : Shared), Inv X pins σ H s → wpAny (model X.prog X.w) X.A (eval e X.env) (EP X pins σ Q) X.xe s
def TD (X : Cx) (e : Expr) : TT := fun σ H Q => ∀ (pins : List (Addr × Obj)) (s : Shared), Inv X pins σ H s → wpAny (model X.prog X.w) X.A (isTrue e X.env (eval e X.env)) (TP X pins σ Q) X.xe s
def WD (X : Cx) (e : Expr) : TT := fun σ H Q => ∀ (whole : Sem Value) (pins : List (Addr × Obj)) (s : Shared), Inv X pins σ H s → wpAny (model X.prog X.w) X.A (isTrue e X.env whole) (TP X pins σ Q) X.xe s
def AD (X : Cx) (es : List Expr) : TA := fun σ H Q => ∀ (pos : Pos) (pins : List (Addr × Obj)) (s : Shared), Inv X pins σ H s → wpAny (model X.prog X.w) X.A (spliced (backTo pos (starEach es X.env))) (AP X pins σ Q) X.xe s
def SD1 (X : Cx) (st : Stmt) : TS := fun D σ H => ∀ (pins : List (Addr × Obj)) (s : Shared), Inv X pins σ H s → wpAny (model X.prog X.w) X.A (exec st X.env) (SP X pins D) X.xe s
def SD (X : Cx) (ss : List Stmt) : TS := fun D σ H => ∀ (pins : List (Addr × Obj)) (s : Shared), Inv X pins σ H s → wpAny (model X.prog X.w) X.A (execs ss X.env) (SP X pins D) X.xe s
section
variable {X : Cx} {e : Expr} {es : List Expr} {st : Stmt} {ss : List Stmt} {σ : L2.St} {H : Hp}
theorem pe_d : PE X e (ED X e) := ⟨fun pins s _ _ _ I h => h pins s I⟩
theorem pt_d : PT X e (TD X e) := ⟨fun pins s _ _ _ I h => h pins s I⟩
theorem pw_d : PW X e (WD X e) := ⟨fun whole pins s _ _ _ I h => h whole pins s I⟩
theorem pa_d : PA X es (AD X es) := ⟨fun pos pins s _ _ _ I h => h pos pins s I⟩
theorem ps_d : PS X st (SD1 X st) := ⟨fun pins s _ _ _ I h => h pins s I⟩
theorem pss_d : PSs X ss (SD X ss) := ⟨fun pins s _ _ _ I h => h pins s I⟩
theorem ED.of {t : TE} {Q : VK} (h : PE X e t) (q : t σ H Q) : ED X e σ H Q := fun pins s I => h.run pins s σ H Q I q
theorem TD.of {t : TT} {Q : Bool → Hp → Prop} (h : PT X e t) (q : t σ H Q) : TD X e σ H Q := fun pins s I => h.run pins s σ H Q I q
theorem WD.of {t : TT} {Q : Bool → Hp → Prop} (h : PW X e t) (q : t σ H Q) : WD X e σ H Q := fun whole pins s I => h.run whole pins s σ H Q I q
theorem AD.of {t : TA} {Q : List V → Hp → Prop} (h : PA X es t) (q : t σ H Q) : AD X es σ H Q := fun pos pins s I => h.run pos pins s σ H Q I q
theorem SD1.of {t : TS} {D : Ends} (h : PS X st t) (q : t D σ H) : SD1 X st D σ H := fun pins s I => h.run pins s σ H D I q
theorem SD.of {t : TS} {D : Ends} (h : PSs X ss t) (q : t D σ H) : SD X ss D σ H := fun pins s I => h.run pins s σ H D I q
end

/-! ### data in a heap -/
theorem same_sqT {K : PySem.W.Frag} {H H' : Hp} {a : Addr} {xs : List V} (e : Same H H') (h : SqT K H a xs) : SqT K H' a xs := by
  rcases h with (h | ⟨o, h⟩) | h
  · exact .inl (.inl (e _ _ h))
  · exact .inl (.inr ⟨o, e _ _ h⟩)
  · exact .inr h
mutual
inductive Rp (K : PySem.W.Frag) (F : Hp) : V → PyData → Prop
  | non : Rp K F .non .none
  | bl (b : Bool) : Rp K F (.bl b) (.bool b)
  | int (i : Int) : Rp K F (.int i) (.int i)
  | str (x : Str) : Rp K F (.str x) (.str x)
  | lst {a : Addr} {xs : List V} {ds : List PyData} : F a = some (.lst xs) → RpAll K F xs ds → Rp K F (.ref a) (.list ds)
  | tup {a : Addr} {xs : List V} {ds : List PyData} : SqT K F a xs → RpAll K F xs ds → Rp K F (.ref a) (.tuple ds)
inductive RpAll (K : PySem.W.Frag) (F : Hp) : List V → List PyData → Prop
  | nil : RpAll K F [] []
  | cons {v : V} {vs : List V} {d : PyData} {ds : List PyData} : Rp K F v d → RpAll K F vs ds → RpAll K F (v :: vs) (d :: ds)
end
section
variable {K : PySem.W.Frag} {F F' : Hp}
mutual
theorem Rp.mono (e : Same F F') : ∀ (d : PyData) (v : V), Rp K F v d → Rp K F' v d
  | .none, _, h => by cases h; exact .non
  | .bool b, _, h => by cases h; exact .bl b
  | .int i, _, h => by cases h; exact .int i
  | .str x, _, h => by cases h; exact .str x
  | .list ds, _, h => by
    cases h with
    | lst hs ha => exact .lst (e _ _ hs) (RpAll.mono e ds _ ha)
  | .tuple ds, _, h => by
    cases h with
    | tup hs ha => exact .tup (same_sqT e hs) (RpAll.mono e ds _ ha)
  | .dict _, _, h => by cases h
theorem RpAll.mono (e : Same F F') : ∀ (ds : List PyData) (vs : List V), RpAll K F vs ds → RpAll K F' vs ds
  | [], _, h => by cases h; exact .nil
  | d :: ds, _, h => by
    cases h with
    | cons h1 h2 => exact .cons (Rp.mono e d _ h1) (RpAll.mono e ds _ h2)
end
mutual
theorem Rp.dp : ∀ (d : PyData) (v : V), Rp K F v d → Dp K F v d
  | .none, _, h => by cases h; exact .non
  | .bool b, _, h => by cases h; exact .bl b
  | .int i, _, h => by cases h; exact .int i
  | .str x, _, h => by cases h; exact .str x
  | .list ds, _, h => by
    cases h with
    | lst hs ha => exact .lst (.inl (.inl hs)) (RpAll.dp ds _ ha)
  | .tuple ds, _, h => by
    cases h with
    | tup hs ha => exact .tup hs (RpAll.dp ds _ ha)
  | .dict _, _, h => by cases h
theorem RpAll.dp : ∀ (ds : List PyData) (vs : List V), RpAll K F vs ds → DpAll K F vs ds
  | [], _, h => by cases h; exact .nil
  | d :: ds, _, h => by
    cases h with
    | cons h1 h2 => exact .cons (Rp.dp d _ h1) (RpAll.dp ds _ h2)
end
theorem RpAll.length : ∀ {ds : List PyData} {vs : List V}, RpAll K F vs ds → vs.length = ds.length
  | [], _, h => by cases h; rfl
  | d :: ds, _, h => by
    cases h with
    | cons h1 h2 => rw [List.length_cons, List.length_cons, RpAll.length h2]
theorem RpAll.get : ∀ {ds : List PyData} {vs : List V} {i : Nat} {v : V}, RpAll K F vs ds → vs[i]? = some v → ∃ d, ds[i]? = some d ∧ Rp K F v d
  | [], _, _, _, h, e => by cases h; simp at e
  | d :: ds, _, 0, _, h, e => by
    cases h with
    | cons h1 h2 =>
      simp at e
      subst e
      exact ⟨d, rfl, h1⟩
  | d :: ds, _, i + 1, v, h, e => by
    cases h with
    | cons h1 h2 =>
      obtain ⟨d', e1, e2⟩ := RpAll.get (i := i) (v := v) h2 (by simpa using e)
      exact ⟨d', by simpa using e1, e2⟩
theorem RpAll.get' : ∀ {ds : List PyData} {vs : List V} {i : Nat} {d : PyData}, RpAll K F vs ds → ds[i]? = some d → ∃ v, vs[i]? = some v ∧ Rp K F v d
  | [], _, _, _, h, e => by simp at e
  | d :: ds, _, 0, _, h, e => by
    cases h with
    | cons h1 h2 =>
      simp at e
      subst e
      exact ⟨_, rfl, h1⟩
  | d :: ds, _, i + 1, v, h, e => by
    cases h with
    | cons h1 h2 =>
      obtain ⟨d', e1, e2⟩ := RpAll.get' (i := i) (d := v) h2 (by simpa using e)
      exact ⟨d', by simpa using e1, e2⟩
theorem RpAll.append : ∀ {ds es : List PyData} {vs ws : List V}, RpAll K F vs ds → RpAll K F ws es → RpAll K F (vs ++ ws) (ds ++ es)
  | [], _, _, _, h, h' => by cases h; exact h'
  | d :: ds, _, _, _, h, h' => by
    cases h with
    | cons h1 h2 => exact .cons h1 (RpAll.append h2 h')
theorem RpAll.take : ∀ (n : Nat) {ds : List PyData} {vs : List V}, RpAll K F vs ds → RpAll K F (vs.take n) (ds.take n)
  | 0, _, _, _ => by rw [List.take_zero, List.take_zero]; exact .nil
  | n + 1, [], _, h => by cases h; exact .nil
  | n + 1, d :: ds, _, h => by
    cases h with
    | cons h1 h2 => exact .cons h1 (RpAll.take n h2)
theorem RpAll.drop : ∀ (n : Nat) {ds : List PyData} {vs : List V}, RpAll K F vs ds → RpAll K F (vs.drop n) (ds.drop n)
  | 0, _, _, h => h
  | n + 1, [], _, h => by cases h; exact .nil
  | n + 1, d :: ds, _, h => by
    cases h with
    | cons h1 h2 => exact RpAll.drop n h2
theorem RpAll.ints : ∀ {ns : List Int} {vs : List V}, RpAll K F vs (ns.map PyData.int) → vs = ns.map V.int
  | [], _, h => by cases h; rfl
  | n :: ns, _, h => by
    cases h with
    | cons h1 h2 => cases h1; rw [RpAll.ints h2]; rfl
theorem RpAll.of_ints : ∀ {ns : List Int}, RpAll K F (ns.map V.int) (ns.map PyData.int)
  | [] => .nil
  | n :: ns => .cons (.int n) RpAll.of_ints
theorem RpAll.bls : ∀ {ns : List Bool} {vs : List V}, RpAll K F vs (ns.map PyData.bool) → vs = ns.map V.bl
  | [], _, h => by cases h; rfl
  | n :: ns, _, h => by
    cases h with
    | cons h1 h2 => cases h1; rw [RpAll.bls h2]; rfl
theorem RpAll.strs : ∀ {ns : List Str} {vs : List V}, RpAll K F vs (ns.map PyData.str) → vs = ns.map V.str
  | [], _, h => by cases h; rfl
  | n :: ns, _, h => by
    cases h with
    | cons h1 h2 => cases h1; rw [RpAll.strs h2]; rfl
theorem RpAll.of_strs : ∀ {ns : List Str}, RpAll K F (ns.map V.str) (ns.map PyData.str)
  | [] => .nil
  | n :: ns => .cons (.str n) RpAll.of_strs
end

/-! ### what is known of a value, whatever else grows -/
structure Ty where
  p : V → Hp → Prop
  mono : ∀ {v : V} {F F' : Hp}, Same F F' → p v F → p v F'
def dat (K : PySem.W.Frag) (d : PyData) : Ty := ⟨fun v F => Rp K F v d, fun e h => Rp.mono e d _ h⟩
def val (v : V) : Ty := ⟨fun x _ => x = v, fun _ h => h⟩
theorem dat_mk {K : PySem.W.Frag} {F : Hp} {v : V} {d : PyData} (h : Rp K F v d) : (dat K d).p v F := h

/-! ### growing: F the part that is known and stays, H the heap -/
structure Grow (F H F' H' : Hp) : Prop where
  sF : Same F F'
  sH : Same H H'
  sub : Same F' H'
  fr : ∀ a, F a = none → H a ≠ none → F' a = none
theorem Grow.refl {F H : Hp} (s : Same F H) : Grow F H F H := ⟨Same.refl _, Same.refl _, s, fun _ h _ => h⟩
theorem some_same {H H' : Hp} {a : Addr} (e : Same H H') (h : H a ≠ none) : H' a ≠ none := by
  cases q : H a with
  | none => exact absurd q h
  | some o => rw [e a o q]; exact fun z => nomatch z
theorem Grow.trans {F H F1 H1 F2 H2 : Hp} (a : Grow F H F1 H1) (b : Grow F1 H1 F2 H2) : Grow F H F2 H2 :=
  ⟨a.sF.trans b.sF, a.sH.trans b.sH, b.sub, fun x h1 h2 => b.fr x (a.fr x h1 h2) (some_same a.sH h2)⟩
/-- a new object, known from now on -/
theorem Grow.new {F H : Hp} {p : Addr} {o : HO} (s : Same F H) (n : H p = none) : Grow F H (upd F p o) (upd H p o) := by
  have nF : F p = none := s.free n
  refine ⟨fun a x e => ?_, fun a x e => ?_, fun a x e => ?_, fun a h1 h2 => ?_⟩
  · rw [upd_ne (ne_of_none e nF)]; exact e
  · rw [upd_ne (ne_of_none e n)]; exact e
  · by_cases h : a = p
    · subst h; rw [upd_same] at e ⊢; exact e
    · rw [upd_ne h] at e ⊢; exact s _ _ e
  · have h : a ≠ p := fun z => h2 (by rw [z]; exact n)
    rw [upd_ne h]; exact h1
/-- a new object of one's own -/
theorem Grow.own {F H : Hp} {p : Addr} {o : HO} (s : Same F H) (n : H p = none) : Grow F H F (upd H p o) :=
  ⟨Same.refl _, fun a x e => by rw [upd_ne (ne_of_none e n)]; exact e, fun a x e => by rw [upd_ne (ne_of_none (s _ _ e) n)]; exact s _ _ e, fun _ h _ => h⟩
theorem Same.upd_new {H : Hp} {p : Addr} {o : HO} (n : H p = none) : Same H (upd H p o) := fun a x e => by
  rw [upd_ne (ne_of_none e n)]; exact e

/-! ### slots -/
inductive Sv where
  | un
  | fz (T : Ty)
  | ow (ds : List PyData)
def SlotOk (K : PySem.W.Frag) (H0 F H : Hp) (o : Option V) : Sv → Prop
  | .un => True
  | .fz T => ∃ v, o = some v ∧ T.p v F
  | .ow ds => ∃ l vs, o = some (.ref l) ∧ F l = none ∧ H0 l = none ∧ H l = some (.lst vs) ∧ RpAll K F vs ds
structure Stt (K : PySem.W.Frag) (F0 H0 : Hp) (σ : L2.St) (F H : Hp) (ρ : List Sv) : Prop where
  g : Grow F0 H0 F H
  len : σ.length = ρ.length
  sl : ∀ (i : Nat) s, ρ[i]? = some s → ∃ o, σ[i]? = some o ∧ SlotOk K H0 F H o s
  ne : ∀ (i j : Nat) ds es l, i ≠ j → ρ[i]? = some (.ow ds) → ρ[j]? = some (.ow es) → σ[i]? = some (some (.ref l)) → σ[j]? = some (some (.ref l)) → False
section
variable {K : PySem.W.Frag} {F0 H0 F H F' H' : Hp} {σ : L2.St} {ρ : List Sv}
theorem SlotOk.grow {o : Option V} {s : Sv} (h : SlotOk K H0 F H o s) (g : Grow F H F' H') : SlotOk K H0 F' H' o s := by
  cases s with
  | un => trivial
  | fz T => obtain ⟨v, e, h⟩ := h; exact ⟨v, e, T.mono g.sF h⟩
  | ow ds =>
    obtain ⟨l, vs, e, h1, h2, h3, h4⟩ := h
    exact ⟨l, vs, e, g.fr l h1 (by rw [h3]; exact fun z => nomatch z), h2, g.sH _ _ h3, RpAll.mono g.sF _ _ h4⟩
theorem Stt.grow (h : Stt K F0 H0 σ F H ρ) (g : Grow F H F' H') : Stt K F0 H0 σ F' H' ρ :=
  ⟨h.g.trans g, h.len, fun i s e => let ⟨o, e1, e2⟩ := h.sl i s e; ⟨o, e1, e2.grow g⟩, h.ne⟩
theorem Stt.sub (h : Stt K F0 H0 σ F H ρ) : Same F H := h.g.sub
/-- a slot gets a known value -/
theorem Stt.set (h : Stt K F0 H0 σ F H ρ) {i : Nat} {v : V} {T : Ty} (hv : T.p v F) : Stt K F0 H0 (σ.set i (some v)) F H (ρ.set i (.fz T)) := by
  refine ⟨h.g, by rw [List.length_set, List.length_set]; exact h.len, fun j s e => ?_, fun j k ds es l hjk e1 e2 e3 e4 => ?_⟩
  · by_cases hj : j = i
    · subst hj
      have hl : j < ρ.length := by
        have := (List.getElem?_eq_some_iff.mp e).1
        rw [List.length_set] at this; exact this
      rw [List.getElem?_set_self hl] at e
      cases e
      exact ⟨some v, by rw [List.getElem?_set_self (by rw [h.len]; exact hl)], v, rfl, hv⟩
    · rw [List.getElem?_set_ne (Ne.symm hj)] at e ⊢
      exact h.sl j s e
  · have hj : j ≠ i := fun z => by
      subst z
      have hl : j < ρ.length := by
        have := (List.getElem?_eq_some_iff.mp e1).1
        rw [List.length_set] at this; exact this
      rw [List.getElem?_set_self hl] at e1; cases e1
    have hk : k ≠ i := fun z => by
      subst z
      have hl : k < ρ.length := by
        have := (List.getElem?_eq_some_iff.mp e2).1
        rw [List.length_set] at this; exact this
      rw [List.getElem?_set_self hl] at e2; cases e2
    rw [List.getElem?_set_ne (Ne.symm hj)] at e1 e3
    rw [List.getElem?_set_ne (Ne.symm hk)] at e2 e4
    exact h.ne j k ds es l hjk e1 e2 e3 e4
/-- a slot gets a new list of its own -/
theorem Stt.setOwn (h : Stt K F0 H0 σ F H ρ) {i : Nat} {l : Addr} {vs : List V} {ds : List PyData} (n : H l = none) (hv : RpAll K F vs ds) : Stt K F0 H0 (σ.set i (some (.ref l))) F (upd H l (.lst vs)) (ρ.set i (.ow ds)) := by
  have g : Grow F H F (upd H l (.lst vs)) := Grow.own h.sub n
  have h' := h.grow g
  have nl : ∀ (j : Nat) es, ρ[j]? = some (.ow es) → σ[j]? = some (some (.ref l)) → False := fun j es e1 e2 => by
    obtain ⟨o, q1, l', vs', q2, _, _, q3, _⟩ := h.sl j _ e1
    rw [e2] at q1; cases q1; cases q2
    rw [n] at q3; cases q3
  refine ⟨h'.g, by rw [List.length_set, List.length_set]; exact h.len, fun j s e => ?_, fun j k ds' es l' hjk e1 e2 e3 e4 => ?_⟩
  · by_cases hj : j = i
    · subst hj
      have hl : j < ρ.length := by
        have := (List.getElem?_eq_some_iff.mp e).1
        rw [List.length_set] at this; exact this
      rw [List.getElem?_set_self hl] at e
      cases e
      exact ⟨some (.ref l), by rw [List.getElem?_set_self (by rw [h.len]; exact hl)], l, vs, rfl, h.sub.free n, h.g.sH.free n, upd_same, hv⟩
    · rw [List.getElem?_set_ne (Ne.symm hj)] at e ⊢
      exact h'.sl j s e
  · have lt : ∀ (x : Nat) z, (ρ.set i (.ow ds))[x]? = some z → x < ρ.length := fun x z q => by
      have := (List.getElem?_eq_some_iff.mp q).1
      rw [List.length_set] at this; exact this
    by_cases hj : j = i
    · subst hj
      have hk : k ≠ j := Ne.symm hjk
      rw [List.getElem?_set_self (by rw [h.len]; exact lt _ _ e1)] at e3
      cases e3
      rw [List.getElem?_set_ne (Ne.symm hk)] at e2 e4
      exact nl k _ e2 e4
    · rw [List.getElem?_set_ne (Ne.symm hj)] at e1 e3
      by_cases hk : k = i
      · subst hk
        rw [List.getElem?_set_self (by rw [h.len]; exact lt _ _ e2)] at e4
        cases e4
        exact nl j _ e1 e3
      · rw [List.getElem?_set_ne (Ne.symm hk)] at e2 e4
        exact h.ne j k ds' es l' hjk e1 e2 e3 e4
/-- a slot's own list is known from now on -/
theorem Stt.freeze (h : Stt K F0 H0 σ F H ρ) {i : Nat} {ds : List PyData} (e : ρ[i]? = some (.ow ds)) : ∃ F', Same F F' ∧ Stt K F0 H0 σ F' H (ρ.set i (.fz (dat K (.list ds)))) := by
  obtain ⟨o, q1, l, vs, q2, n1, n2, q3, q4⟩ := h.sl i _ e
  subst q2
  have sF : Same F (upd F l (.lst vs)) := Same.upd_new n1
  have hl : i < ρ.length := (List.getElem?_eq_some_iff.mp e).1
  refine ⟨upd F l (.lst vs), sF, ⟨⟨h.g.sF.trans sF, h.g.sH, fun a x z => ?_, fun a z1 z2 => ?_⟩, by rw [List.length_set]; exact h.len, fun j s z => ?_, fun j k ds' es l' hjk e1 e2 e3 e4 => ?_⟩⟩
  · by_cases ha : a = l
    · subst ha; rw [upd_same] at z; cases z; exact q3
    · rw [upd_ne ha] at z; exact h.sub _ _ z
  · have ha : a ≠ l := fun y => by subst y; exact z2 n2
    rw [upd_ne ha]; exact h.g.fr a z1 z2
  · by_cases hj : j = i
    · subst hj
      rw [List.getElem?_set_self hl] at z
      cases z
      exact ⟨_, q1, .ref l, rfl, .lst upd_same (RpAll.mono sF _ _ q4)⟩
    · rw [List.getElem?_set_ne (Ne.symm hj)] at z
      obtain ⟨o', r1, r2⟩ := h.sl j s z
      refine ⟨o', r1, ?_⟩
      cases s with
      | un => trivial
      | fz T => obtain ⟨v, e', h'⟩ := r2; exact ⟨v, e', T.mono sF h'⟩
      | ow es =>
        obtain ⟨l', vs', e', h1, h2, h3, h4⟩ := r2
        refine ⟨l', vs', e', ?_, h2, h3, RpAll.mono sF _ _ h4⟩
        rw [upd_ne (fun y => ?_)]
        · exact h1
        · subst y; subst e'; exact h.ne i j ds es l' (Ne.symm hj) e z q1 r1
  · have hj : j ≠ i := fun y => by subst y; rw [List.getElem?_set_self hl] at e1; cases e1
    have hk : k ≠ i := fun y => by subst y; rw [List.getElem?_set_self hl] at e2; cases e2
    rw [List.getElem?_set_ne (Ne.symm hj)] at e1
    rw [List.getElem?_set_ne (Ne.symm hk)] at e2
    exact h.ne j k ds' es l' hjk e1 e2 e3 e4
/-- a slot's own list is changed -/
theorem Stt.mut (h : Stt K F0 H0 σ F H ρ) {i : Nat} {ds ds' : List PyData} {l : Addr} {vs' : List V} (e : ρ[i]? = some (.ow ds)) (el : σ[i]? = some (some (.ref l))) (hv : RpAll K F vs' ds') :
    Stt K F0 H0 σ F (upd H l (.lst vs')) (ρ.set i (.ow ds')) := by
  obtain ⟨o, q1, l', vs, q2, n1, n2, q3, q4⟩ := h.sl i _ e
  rw [el] at q1; cases q1; cases q2
  have hl : i < ρ.length := (List.getElem?_eq_some_iff.mp e).1
  refine ⟨⟨h.g.sF, fun a x z => ?_, fun a x z => ?_, h.g.fr⟩, by rw [List.length_set]; exact h.len, fun j s z => ?_, fun j k es1 es2 l' hjk e1 e2 e3 e4 => ?_⟩
  · rw [upd_ne (ne_of_none z n2)]; exact h.g.sH _ _ z
  · rw [upd_ne (ne_of_none z n1)]; exact h.sub _ _ z
  · by_cases hj : j = i
    · subst hj
      rw [List.getElem?_set_self hl] at z
      cases z
      exact ⟨_, el, l, vs', rfl, n1, n2, upd_same, hv⟩
    · rw [List.getElem?_set_ne (Ne.symm hj)] at z
      obtain ⟨o', r1, r2⟩ := h.sl j s z
      refine ⟨o', r1, ?_⟩
      cases s with
      | un => trivial
      | fz T => exact r2
      | ow es =>
        obtain ⟨l', vs2, e', h1, h2, h3, h4⟩ := r2
        refine ⟨l', vs2, e', h1, h2, ?_, h4⟩
        rw [upd_ne (fun y => ?_)]
        · exact h3
        · subst y; subst e'; exact h.ne i j ds es l' (Ne.symm hj) e z el r1
  · have back : ∀ (x : Nat) w, (ρ.set i (.ow ds'))[x]? = some (.ow w) → ∃ w', ρ[x]? = some (.ow w') := fun x w q => by
      by_cases hx : x = i
      · subst hx; exact ⟨ds, e⟩
      · rw [List.getElem?_set_ne (Ne.symm hx)] at q; exact ⟨w, q⟩
    obtain ⟨w1, z1⟩ := back j es1 e1
    obtain ⟨w2, z2⟩ := back k es2 e2
    exact h.ne j k w1 w2 l' hjk z1 z2 e3 e4
end

end Lk

namespace Lk
open PySem PySem.Spec PyProof.Rows L2

/-- a body that runs, its entry's heaps -/
structure Kx where
  X : Cx
  F0 : Hp
  H0 : Hp
abbrev Kx.K (C : Kx) : PySem.W.Frag := C.X.K
abbrev Kx.S (C : Kx) (σ : L2.St) (F H : Hp) (ρ : List Sv) : Prop := Stt C.X.K C.F0 C.H0 σ F H ρ
abbrev TyAll (F : Hp) : List V → List Ty → Prop := Paired fun v T => T.p v F
theorem TyAll.mono {F F' : Hp} (e : Same F F') : ∀ {vs : List V} {Ts : List Ty}, TyAll F vs Ts → TyAll F' vs Ts
  | _, _, .nil => .nil
  | _, _, .cons (b := T) h t => .cons (T.mono e h) (TyAll.mono e t)

/-! ### what an expression may give -/
def Ew (C : Kx) (e : Expr) (ρ : List Sv) (Q : Ty → List Sv → Prop) : Prop := ∀ (σ : L2.St) (F H : Hp), C.S σ F H ρ → ∀ Qv : VK,
  (∀ T v F' H' ρ', Q T ρ' → T.p v F' → Same F F' → C.S σ F' H' ρ' → Qv v H') → ED C.X e σ H Qv
def Tw (C : Kx) (e : Expr) (ρ : List Sv) (Q : Bool → List Sv → Prop) : Prop := ∀ (σ : L2.St) (F H : Hp), C.S σ F H ρ → ∀ Qv : Bool → Hp → Prop,
  (∀ b F' H' ρ', Q b ρ' → Same F F' → C.S σ F' H' ρ' → Qv b H') → TD C.X e σ H Qv
def Ww (C : Kx) (e : Expr) (ρ : List Sv) (Q : Bool → List Sv → Prop) : Prop := ∀ (σ : L2.St) (F H : Hp), C.S σ F H ρ → ∀ Qv : Bool → Hp → Prop,
  (∀ b F' H' ρ', Q b ρ' → Same F F' → C.S σ F' H' ρ' → Qv b H') → WD C.X e σ H Qv
def Aw (C : Kx) (es : List Expr) (ρ : List Sv) (Q : List Ty → List Sv → Prop) : Prop := ∀ (σ : L2.St) (F H : Hp), C.S σ F H ρ → ∀ Qv : List V → Hp → Prop,
  (∀ Ts vs F' H' ρ', Q Ts ρ' → TyAll F' vs Ts → Same F F' → C.S σ F' H' ρ' → Qv vs H') → AD C.X es σ H Qv
/-- .. just this -/
def Ev (C : Kx) (e : Expr) (ρ : List Sv) (T : Ty) : Prop := ∀ Q : Ty → List Sv → Prop, Q T ρ → Ew C e ρ Q
def Tv (C : Kx) (e : Expr) (ρ : List Sv) (b : Bool) : Prop := ∀ Q : Bool → List Sv → Prop, Q b ρ → Tw C e ρ Q
def Wv (C : Kx) (e : Expr) (ρ : List Sv) (b : Bool) : Prop := ∀ Q : Bool → List Sv → Prop, Q b ρ → Ww C e ρ Q
def Av (C : Kx) (es : List Expr) (ρ : List Sv) (Ts : List Ty) : Prop := ∀ Q : List Ty → List Sv → Prop, Q Ts ρ → Aw C es ρ Q

/-- what is wanted behind statements -/
structure Po where
  nx : List Sv → Prop
  rt : Ty → Prop
  ro : List PyData → Prop := fun _ => False
  bk : List Sv → Prop := fun _ => False
  ct : List Sv → Prop := fun _ => False
structure Meets (C : Kx) (P : Po) (D : Ends) (F : Hp) : Prop where
  nx : ∀ σ F' H' ρ', P.nx ρ' → Same F F' → C.S σ F' H' ρ' → D.nx σ H'
  rt : ∀ T v F' H', P.rt T → T.p v F' → Grow C.F0 C.H0 F' H' → D.rt v H'
  ro : ∀ ds l vs F' H', P.ro ds → H' l = none → RpAll C.K F' vs ds → Grow C.F0 C.H0 F' H' → D.rt (.ref l) (upd H' l (.lst vs))
  bk : ∀ σ F' H' ρ', P.bk ρ' → Same F F' → C.S σ F' H' ρ' → D.bk σ H'
  ct : ∀ σ F' H' ρ', P.ct ρ' → Same F F' → C.S σ F' H' ρ' → D.ct σ H'
theorem Meets.mono {C : Kx} {P : Po} {D : Ends} {F F' : Hp} (m : Meets C P D F) (e : Same F F') : Meets C P D F' :=
  ⟨fun σ G H ρ p s t => m.nx σ G H ρ p (e.trans s) t, m.rt, m.ro, fun σ G H ρ p s t => m.bk σ G H ρ p (e.trans s) t, fun σ G H ρ p s t => m.ct σ G H ρ p (e.trans s) t⟩
def Sw1 (C : Kx) (st : Stmt) (ρ : List Sv) (P : Po) : Prop := ∀ (σ : L2.St) (F H : Hp), C.S σ F H ρ → ∀ D : Ends, Meets C P D F → SD1 C.X st D σ H
def Sw (C : Kx) (ss : List Stmt) (ρ : List Sv) (P : Po) : Prop := ∀ (σ : L2.St) (F H : Hp), C.S σ F H ρ → ∀ D : Ends, Meets C P D F → SD C.X ss D σ H

section
variable {C : Kx} {ρ : List Sv} {a b c e : Expr} {es rest : List Expr} {pos : Pos} {T T1 T2 : Ty} {Q : Ty → List Sv → Prop} {P : Po} {i : Nat} {x : Str}

theorem Ew.mono {Q' : Ty → List Sv → Prop} (h : Ew C e ρ Q) (q : ∀ T ρ', Q T ρ' → Q' T ρ') : Ew C e ρ Q' := fun σ F H st Qv k => h σ F H st Qv fun T v F' H' ρ' p => k T v F' H' ρ' (q _ _ p)
theorem Tw.mono {Q Q' : Bool → List Sv → Prop} (h : Tw C e ρ Q) (q : ∀ T ρ', Q T ρ' → Q' T ρ') : Tw C e ρ Q' := fun σ F H st Qv k => h σ F H st Qv fun T F' H' ρ' p => k T F' H' ρ' (q _ _ p)
theorem Ev.is (h : Ev C e ρ T1) (q : T1 = T2) : Ev C e ρ T2 := q ▸ h
theorem Tv.is {b1 b2 : Bool} (h : Tv C e ρ b1) (q : b1 = b2) : Tv C e ρ b2 := q ▸ h
theorem Ev.d {d d' : PyData} (h : Ev C e ρ (dat C.K d)) (q : d = d') : Ev C e ρ (dat C.K d') := q ▸ h

/-! ### names, constants -/
theorem Stt.fz {K : PySem.W.Frag} {F0 H0 F H : Hp} {σ : L2.St} {i : Nat} {T : Ty} (h : Stt K F0 H0 σ F H ρ) (e : ρ[i]? = some (.fz T)) : ∃ v, σ[i]? = some (some v) ∧ T.p v F := by
  obtain ⟨o, q, v, e2, p⟩ := h.sl i _ e
  exact ⟨v, by rw [q, e2], p⟩
theorem ev_var (hi : ρ[i]? = some (.fz T)) (hN : C.X.N[i]? = some x) (hv : Vis C.X.env.scope x) (hd : (x == ("__debug__" : Str)) = false := by decide) (hcd : (x == ("__classdict__" : Str)) = false := by decide) : Ev C (.Name x pos) ρ T := fun Q q σ F H st Qv k => by
  obtain ⟨v, e, p⟩ := st.fz hi
  exact ED.of (pe_var hN hv hd hcd) ⟨v, e, k _ v F H ρ q p (Same.refl _) st⟩
theorem ev_of_val {v : V} (h : PE C.X e (tC v)) (hv : ∀ F, T.p v F) : Ev C e ρ T := fun Q q σ F H st Qv k =>
  ED.of h (k _ v F H ρ q (hv F) (Same.refl _) st)
theorem ev_int {i : Int} {j} : Ev C (.Constant (.int i) j pos) ρ (dat C.K (.int i)) := ev_of_val pe_int fun _ => .int i
theorem ev_bl {i : Bool} {j} : Ev C (.Constant (.bool i) j pos) ρ (dat C.K (.bool i)) := ev_of_val pe_bl fun _ => .bl i
theorem ev_str {i : Str} {j} : Ev C (.Constant (.str i) j pos) ρ (dat C.K (.str i)) := ev_of_val pe_str fun _ => .str i
theorem ev_non {j} : Ev C (.Constant .none j pos) ρ (dat C.K .none) := ev_of_val pe_non fun _ => .non
theorem ev_glob {v : V} {u : Value} (hg : Gl C.X x) (hm : C.X.mg x = some u) (r : RelV v u) (hv : ∀ F, T.p v F) (hd : (x == ("__debug__" : Str)) = false := by decide) : Ev C (.Name x pos) ρ T := ev_of_val (pe_glob hg hm r hd) hv
theorem ev_globS {z : Str} {t : Tok} (hg : Gl C.X x) (hm : C.X.mg x = some (.str z t)) (hd : (x == ("__debug__" : Str)) = false := by decide) : Ev C (.Name x pos) ρ (dat C.K (.str z)) := ev_glob (v := .str z) hg hm ⟨_, rfl⟩ (fun _ => .str z) hd
theorem ev_globI {z : Int} {t : Tok} (hg : Gl C.X x) (hm : C.X.mg x = some (.int z t)) (hd : (x == ("__debug__" : Str)) = false := by decide) : Ev C (.Name x pos) ρ (dat C.K (.int z)) := ev_glob (v := .int z) hg hm ⟨_, rfl⟩ (fun _ => .int z) hd
theorem ev_ty {n : String} (hg : Gl C.X x) (hm : C.X.mg x = none) (hv : bootBuiltins x = some (.type n)) (hn : x ≠ "__name__" := by decide) (hd : (x == ("__debug__" : Str)) = false := by decide) : Ev C (.Name x pos) ρ (val (.ty n)) := ev_of_val (pe_bltn (v := .ty n) hg hm hv rfl hn hd) fun _ => rfl
/-- a class of the text as a value -/
theorem ev_globC {z : Addr} (hg : Gl C.X x) (hm : C.X.mg x = some (.ref z)) (hd : (x == ("__debug__" : Str)) = false := by decide) : Ev C (.Name x pos) ρ (val (.ref z)) := ev_glob (v := .ref z) hg hm rfl (fun _ => rfl) hd

/-! ### operators by values -/
/-- with x, y of these kinds the reading r gives a T -/
def BinT (r : R2) (T1 T2 T : Ty) : Prop := ∀ x y F H (Qv : VK), T1.p x F → T2.p y F → Same F H → (∀ v F' H', T.p v F' → Grow F H F' H' → Qv v H') → r x y H Qv
def UnT (r : V → Hp → VK → Prop) (T1 T : Ty) : Prop := ∀ x F H (Qv : VK), T1.p x F → Same F H → (∀ v F' H', T.p v F' → Grow F H F' H' → Qv v H') → r x H Qv
def CallT (r : List V → Hp → VK → Prop) (Ts : List Ty) (T : Ty) : Prop := ∀ vs F H (Qv : VK), TyAll F vs Ts → Same F H → (∀ v F' H', T.p v F' → Grow F H F' H' → Qv v H') → r vs H Qv
theorem ew_op2 {r : R2} (hp : PE C.X e (tOp r (ED C.X a) (ED C.X b))) (h : Ew C a ρ fun T1 ρ1 => Ew C b ρ1 fun T2 ρ2 => ∃ T, BinT r T1 T2 T ∧ Q T ρ2) : Ew C e ρ Q := fun σ F H st Qv k =>
  ED.of hp (h σ F H st _ fun T1 x F1 H1 ρ1 h1 p1 s1 st1 => h1 σ F1 H1 st1 _ fun T2 y F2 H2 ρ2 h2 p2 s2 st2 => by
    obtain ⟨T, hb, hq⟩ := h2
    exact hb x y F2 H2 _ (T1.mono s2 p1) p2 st2.sub fun v F' H' pv g => k T v F' H' ρ2 hq pv ((s1.trans s2).trans g.sF) (st2.grow g))
theorem ev_op2 {r : R2} (hp : PE C.X e (tOp r (ED C.X a) (ED C.X b))) (ha : Ev C a ρ T1) (hb : Ev C b ρ T2) (ht : BinT r T1 T2 T) : Ev C e ρ T := fun Q q => ew_op2 hp (ha _ (hb _ ⟨T, ht, q⟩))
theorem ev_bin {op : Operator} {r : R2} (ho : OpR C.X (binaryOp op) r) (ht : BinT r T1 T2 T) (ha : Ev C a ρ T1) (hb : Ev C b ρ T2) : Ev C (.BinOp a op b pos) ρ T := ev_op2 (pe_op ho pe_d pe_d) ha hb ht
theorem ew_bin {op : Operator} {r : R2} (ho : OpR C.X (binaryOp op) r) (h : Ew C a ρ fun T1 ρ1 => Ew C b ρ1 fun T2 ρ2 => ∃ T, BinT r T1 T2 T ∧ Q T ρ2) : Ew C (.BinOp a op b pos) ρ Q := ew_op2 (pe_op ho pe_d pe_d) h
theorem ev_cmp {op : CmpOp} {r : R2} (ho : OpR C.X (compareOp op) r) (ht : BinT r T1 T2 T) (ha : Ev C a ρ T1) (hb : Ev C b ρ T2) (hm : behindInMarks op b = false := by first | exact nomark _ | rfl) : Ev C (.Compare a [op] [b] pos) ρ T := ev_op2 (pe_cmpR ho pe_d pe_d hm) ha hb ht
theorem ew_cmp {op : CmpOp} {r : R2} (ho : OpR C.X (compareOp op) r) (h : Ew C a ρ fun T1 ρ1 => Ew C b ρ1 fun T2 ρ2 => ∃ T, BinT r T1 T2 T ∧ Q T ρ2) (hm : behindInMarks op b = false := by first | exact nomark _ | rfl) : Ew C (.Compare a [op] [b] pos) ρ Q := ew_op2 (pe_cmpR ho pe_d pe_d hm) h
theorem ev_ix {r : R2} (hr : IxR C.X r) (ht : BinT r T1 T2 T) (ha : Ev C a ρ T1) (hb : Ev C b ρ T2) (hs : PlainIx b := by exact fun _ _ => rfl) : Ev C (.Subscript a b pos) ρ T := ev_op2 (pe_ix hr pe_d pe_d hs) ha hb ht
theorem ew_ix {r : R2} (hr : IxR C.X r) (h : Ew C a ρ fun T1 ρ1 => Ew C b ρ1 fun T2 ρ2 => ∃ T, BinT r T1 T2 T ∧ Q T ρ2) (hs : PlainIx b := by exact fun _ _ => rfl) : Ew C (.Subscript a b pos) ρ Q := ew_op2 (pe_ix hr pe_d pe_d hs) h
theorem ew_un {op : UnaryOp} {r : V → Hp → VK → Prop} (ho : UnR C.X (unaryOp op) r) (h : Ew C a ρ fun T1 ρ1 => ∃ T, UnT r T1 T ∧ Q T ρ1) : Ew C (.UnaryOp op a pos) ρ Q := fun σ F H st Qv k =>
  ED.of (pe_un ho pe_d) (h σ F H st _ fun T1 x F1 H1 ρ1 h1 p1 s1 st1 => by
    obtain ⟨T, hb, hq⟩ := h1
    exact hb x F1 H1 _ p1 st1.sub fun v F' H' pv g => k T v F' H' ρ1 hq pv (s1.trans g.sF) (st1.grow g))
theorem ev_un {op : UnaryOp} {r : V → Hp → VK → Prop} (ho : UnR C.X (unaryOp op) r) (ht : UnT r T1 T) (ha : Ev C a ρ T1) : Ev C (.UnaryOp op a pos) ρ T := fun Q q => ew_un ho (ha _ ⟨T, ht, q⟩)

section
variable {K : PySem.W.Frag} {m n : Int} {z y : Str}
theorem rp_int {F : Hp} {v : V} (h : (dat K (.int n)).p v F) : v = .int n := by cases h; rfl
theorem rp_str {F : Hp} {v : V} (h : (dat K (.str z)).p v F) : v = .str z := by cases h; rfl
theorem rp_bl {F : Hp} {v : V} {b : Bool} (h : (dat K (.bool b)).p v F) : v = .bl b := by cases h; rfl
theorem rp_non {F : Hp} {v : V} (h : (dat K .none).p v F) : v = .non := by cases h; rfl
theorem bt_I0 {g : Int → Int → V} {d : PyData} (hd : ∀ F, Rp K F (g m n) d) : BinT (rI0 g) (dat K (.int m)) (dat K (.int n)) (dat K d) := fun x y F H Qv hx hy s q =>
  ⟨m, n, rp_int hx, rp_int hy, q _ F H (hd F) (Grow.refl s)⟩
theorem bt_I {c : Int → Int → Prop} {g : Int → Int → V} {d : PyData} (hc : c m n) (hd : ∀ F, Rp K F (g m n) d) : BinT (rI c g) (dat K (.int m)) (dat K (.int n)) (dat K d) := fun x y F H Qv hx hy s q =>
  ⟨m, n, rp_int hx, rp_int hy, hc, q _ F H (hd F) (Grow.refl s)⟩
theorem ut_I {g : Int → V} {d : PyData} (hd : ∀ F, Rp K F (g m) d) : UnT (rU g) (dat K (.int m)) (dat K d) := fun x F H Qv hx s q => ⟨m, rp_int hx, q _ F H (hd F) (Grow.refl s)⟩
theorem bt_S {g : Str → Str → V} {d : PyData} {cnd : Str → Str → Prop} (hc : cnd z y) (hd : ∀ F, Rp K F (g z y) d) : BinT (fun x y H Q => ∃ i j, x = .str i ∧ y = .str j ∧ cnd i j ∧ Q (g i j) H) (dat K (.str z)) (dat K (.str y)) (dat K d) := fun x y F H Qv hx hy s q =>
  ⟨_, _, rp_str hx, rp_str hy, hc, q _ F H (hd F) (Grow.refl s)⟩
theorem bt_S0 {g : Str → Str → V} {d : PyData} (hd : ∀ F, Rp K F (g z y) d) : BinT (fun x y H Q => ∃ i j, x = .str i ∧ y = .str j ∧ Q (g i j) H) (dat K (.str z)) (dat K (.str y)) (dat K d) := fun x y F H Qv hx hy s q =>
  ⟨_, _, rp_str hx, rp_str hy, q _ F H (hd F) (Grow.refl s)⟩
end
/-! ints -/
variable {m n : Int}
theorem ev_add (ha : Ev C a ρ (dat C.K (.int m))) (hb : Ev C b ρ (dat C.K (.int n))) : Ev C (.BinOp a .Add b pos) ρ (dat C.K (.int (m + n))) := ev_bin op_add (bt_I0 fun _ => .int _) ha hb
theorem ev_sub (ha : Ev C a ρ (dat C.K (.int m))) (hb : Ev C b ρ (dat C.K (.int n))) : Ev C (.BinOp a .Sub b pos) ρ (dat C.K (.int (m - n))) := ev_bin op_sub (bt_I0 fun _ => .int _) ha hb
theorem ev_mul (ha : Ev C a ρ (dat C.K (.int m))) (hb : Ev C b ρ (dat C.K (.int n))) (hc : CMul m n) : Ev C (.BinOp a .Mult b pos) ρ (dat C.K (.int (m * n))) := ev_bin op_mul (bt_I hc fun _ => .int _) ha hb
theorem ev_mod (ha : Ev C a ρ (dat C.K (.int m))) (hb : Ev C b ρ (dat C.K (.int n))) (hc : 0 < n) : Ev C (.BinOp a .Mod b pos) ρ (dat C.K (.int (m % n))) := ev_bin op_mod (bt_I (c := fun _ j => 0 < j) hc fun _ => .int _) ha hb
theorem ev_fdiv (ha : Ev C a ρ (dat C.K (.int m))) (hb : Ev C b ρ (dat C.K (.int n))) (hc : 0 < n ∧ n < 1073741824) : Ev C (.BinOp a .FloorDiv b pos) ρ (dat C.K (.int (m / n))) := ev_bin op_fdiv (bt_I (c := CDiv) hc fun _ => .int _) ha hb
theorem ev_pow (ha : Ev C a ρ (dat C.K (.int m))) (hb : Ev C b ρ (dat C.K (.int n))) (hc : CPow m n) : Ev C (.BinOp a .Pow b pos) ρ (dat C.K (.int (m ^ n.toNat))) := ev_bin op_pow (bt_I (c := CPow) hc fun _ => .int _) ha hb
theorem ev_shl (ha : Ev C a ρ (dat C.K (.int m))) (hb : Ev C b ρ (dat C.K (.int n))) (hc : CPow m n) : Ev C (.BinOp a .LShift b pos) ρ (dat C.K (.int (m * 2 ^ n.toNat))) := ev_bin op_shl (bt_I (c := CPow) hc fun _ => .int _) ha hb
theorem ev_neg (ha : Ev C a ρ (dat C.K (.int m))) : Ev C (.UnaryOp .USub a pos) ρ (dat C.K (.int (-m))) := ev_un un_neg (ut_I fun _ => .int _) ha
/-! texts -/
variable {z y : Str}
theorem ev_addS (ha : Ev C a ρ (dat C.K (.str z))) (hb : Ev C b ρ (dat C.K (.str y))) (hc : z.length + y.length ≤ sizeLine) : Ev C (.BinOp a .Add b pos) ρ (dat C.K (.str (z ++ y))) := ev_bin op_add_str (bt_S (g := fun i j => .str (i ++ j)) (cnd := fun i j => i.length + j.length ≤ sizeLine) hc fun _ => .str _) ha hb
theorem ev_ixS {k : Int} {cp : Nat} (ha : Ev C a ρ (dat C.K (.str z))) (hb : Ev C b ρ (dat C.K (.int k))) (hz : z.length ≤ sizeLine) (hc : atI z.cps.toList k = some cp) (hs : PlainIx b := by exact fun _ _ => rfl) : Ev C (.Subscript a b pos) ρ (dat C.K (.str ⟨#[cp]⟩)) :=
  ev_ix ix_str (fun x y F H Qv hx hy s q => ⟨_, _, cp, rp_str hx, rp_int hy, hz, hc, q _ F H (.str _) (Grow.refl s)⟩) ha hb hs
/-! lists, tuples -/
theorem atI_rp {K : PySem.W.Frag} {F : Hp} {ds : List PyData} {vs : List V} {k : Int} {d : PyData} (h : RpAll K F vs ds) (e : atI ds k = some d) : ∃ v, atI vs k = some v ∧ Rp K F v d := by
  unfold atI at e ⊢
  rw [h.length]
  cases hj : ixN ds.length k with
  | none => rw [hj] at e; cases e
  | some j =>
    rw [hj] at e
    obtain ⟨v, e1, e2⟩ := h.get' (i := j) (d := d) e
    exact ⟨v, e1, e2⟩
theorem ev_ixL {ds : List PyData} {k : Int} {d : PyData} (ha : Ev C a ρ (dat C.K (.list ds))) (hb : Ev C b ρ (dat C.K (.int k))) (hc : atI ds k = some d) (hs : PlainIx b := by exact fun _ _ => rfl) : Ev C (.Subscript a b pos) ρ (dat C.K d) :=
  ev_ix ix_list (fun x y F H Qv hx hy s q => by
    cases rp_int hy
    cases hx with
    | lst h1 h2 =>
      obtain ⟨v, e1, e2⟩ := atI_rp h2 hc
      exact ⟨_, _, _, v, rfl, rfl, .inl (.inl (s _ _ h1)), e1, q _ F H e2 (Grow.refl s)⟩) ha hb hs
theorem ev_ixT {ds : List PyData} {k : Int} {d : PyData} (ha : Ev C a ρ (dat C.K (.tuple ds))) (hb : Ev C b ρ (dat C.K (.int k))) (hc : atI ds k = some d) (hs : PlainIx b := by exact fun _ _ => rfl) : Ev C (.Subscript a b pos) ρ (dat C.K d) :=
  ev_ix ix_tup (fun x y F H Qv hx hy s q => by
    cases rp_int hy
    cases hx with
    | tup h1 h2 =>
      obtain ⟨v, e1, e2⟩ := atI_rp h2 hc
      exact ⟨_, _, _, v, rfl, rfl, same_sqT s h1, e1, q _ F H e2 (Grow.refl s)⟩) ha hb hs
end
end Lk

namespace Lk
open PySem PySem.Spec PyProof.Rows L2

section
variable {C : Kx} {ρ : List Sv} {a b c e : Expr} {es rest : List Expr} {pos : Pos} {T T1 T2 : Ty} {Q : Ty → List Sv → Prop} {P : Po} {i : Nat} {x : Str} {m n : Int} {z y : Str}

/-! ### comparisons -/
def Cv (C : Kx) (op : CmpOp) (a b : Expr) (ρ : List Sv) (k : Bool) : Prop := ∃ r T1 T2, OpR C.X (compareOp op) r ∧ BinT r T1 T2 (dat C.K (.bool k)) ∧ Ev C a ρ T1 ∧ Ev C b ρ T2
theorem Cv.is {op : CmpOp} {k k' : Bool} (h : Cv C op a b ρ k) (e : k = k') : Cv C op a b ρ k' := e ▸ h
theorem cv_lt (ha : Ev C a ρ (dat C.K (.int m))) (hb : Ev C b ρ (dat C.K (.int n))) : Cv C .Lt a b ρ (decide (m < n)) := ⟨_, _, _, op_lt, bt_I0 fun _ => .bl _, ha, hb⟩
theorem cv_le (ha : Ev C a ρ (dat C.K (.int m))) (hb : Ev C b ρ (dat C.K (.int n))) : Cv C .LtE a b ρ (decide (m ≤ n)) := ⟨_, _, _, op_le, bt_I0 fun _ => .bl _, ha, hb⟩
theorem cv_gt (ha : Ev C a ρ (dat C.K (.int m))) (hb : Ev C b ρ (dat C.K (.int n))) : Cv C .Gt a b ρ (decide (n < m)) := ⟨_, _, _, op_gt, bt_I0 fun _ => .bl _, ha, hb⟩
theorem cv_ge (ha : Ev C a ρ (dat C.K (.int m))) (hb : Ev C b ρ (dat C.K (.int n))) : Cv C .GtE a b ρ (decide (n ≤ m)) := ⟨_, _, _, op_ge, bt_I0 fun _ => .bl _, ha, hb⟩
theorem bt_eqD {K : PySem.W.Frag} {d d' : PyData} (h : SeqAt.shaped d = true) (h' : SeqAt.shaped d' = true) : BinT (rEqD K) (dat K d) (dat K d') (dat K (.bool (PyData.eqv d d'))) := fun x y F H Qv hx hy s q =>
  ⟨d, d', Rp.dp _ _ (Rp.mono s _ _ hx), Rp.dp _ _ (Rp.mono s _ _ hy), h, h', q _ F H (.bl _) (Grow.refl s)⟩
theorem bt_neD {K : PySem.W.Frag} {d d' : PyData} (h : SeqAt.shaped d = true) (h' : SeqAt.shaped d' = true) : BinT (rNeD K) (dat K d) (dat K d') (dat K (.bool (!PyData.eqv d d'))) := fun x y F H Qv hx hy s q =>
  ⟨d, d', Rp.dp _ _ (Rp.mono s _ _ hx), Rp.dp _ _ (Rp.mono s _ _ hy), h, h', q _ F H (.bl _) (Grow.refl s)⟩
theorem cv_eqD {d d' : PyData} (hu : C.X.A.units + 64 < cLine) (ha : Ev C a ρ (dat C.K d)) (hb : Ev C b ρ (dat C.K d')) (h : SeqAt.shaped d = true) (h' : SeqAt.shaped d' = true) : Cv C .Eq a b ρ (PyData.eqv d d') := ⟨_, _, _, op_eqD hu, bt_eqD h h', ha, hb⟩
theorem cv_neD {d d' : PyData} (hu : C.X.A.units + 64 < cLine) (ha : Ev C a ρ (dat C.K d)) (hb : Ev C b ρ (dat C.K d')) (h : SeqAt.shaped d = true) (h' : SeqAt.shaped d' = true) : Cv C .NotEq a b ρ (!PyData.eqv d d') := ⟨_, _, _, op_neD hu, bt_neD h h', ha, hb⟩
theorem cv_eqI (ha : Ev C a ρ (dat C.K (.int m))) (hb : Ev C b ρ (dat C.K (.int n))) : Cv C .Eq a b ρ (decide (m = n)) := ⟨_, _, _, op_eq, fun x y F H Qv hx hy s q => by
    cases rp_int hx; cases rp_int hy
    refine ⟨rfl, q _ F H ?_ (Grow.refl s)⟩
    rw [show decide (V.int m = V.int n) = decide (m = n) by by_cases h : m = n <;> simp [h]]
    exact .bl _, ha, hb⟩
theorem cv_neI (ha : Ev C a ρ (dat C.K (.int m))) (hb : Ev C b ρ (dat C.K (.int n))) : Cv C .NotEq a b ρ (!decide (m = n)) := ⟨_, _, _, op_ne, fun x y F H Qv hx hy s q => by
    cases rp_int hx; cases rp_int hy
    refine ⟨rfl, q _ F H ?_ (Grow.refl s)⟩
    rw [show decide (V.int m = V.int n) = decide (m = n) by by_cases h : m = n <;> simp [h]]
    exact .bl _, ha, hb⟩
theorem cv_eqS (ha : Ev C a ρ (dat C.K (.str z))) (hb : Ev C b ρ (dat C.K (.str y))) : Cv C .Eq a b ρ (decide (z = y)) := ⟨_, _, _, op_eq, fun x y' F H Qv hx hy s q => by
    cases rp_str hx; cases rp_str hy
    refine ⟨rfl, q _ F H ?_ (Grow.refl s)⟩
    rw [show decide (V.str z = V.str y) = decide (z = y) by by_cases h : z = y <;> simp [h]]
    exact .bl _, ha, hb⟩
theorem cv_neS (ha : Ev C a ρ (dat C.K (.str z))) (hb : Ev C b ρ (dat C.K (.str y))) : Cv C .NotEq a b ρ (!decide (z = y)) := ⟨_, _, _, op_ne, fun x y' F H Qv hx hy s q => by
    cases rp_str hx; cases rp_str hy
    refine ⟨rfl, q _ F H ?_ (Grow.refl s)⟩
    rw [show decide (V.str z = V.str y) = decide (z = y) by by_cases h : z = y <;> simp [h]]
    exact .bl _, ha, hb⟩
theorem cv_inS {cp : Nat} (ha : Ev C a ρ (dat C.K (.str ⟨#[cp]⟩))) (hb : Ev C b ρ (dat C.K (.str y))) : Cv C .In a b ρ (decide (cp ∈ y.cps.toList)) := ⟨_, _, _, op_inS, fun x y' F H Qv hx hy s q => ⟨cp, y, rp_str hx, rp_str hy, q _ F H (.bl _) (Grow.refl s)⟩, ha, hb⟩
theorem cv_niS {cp : Nat} (ha : Ev C a ρ (dat C.K (.str ⟨#[cp]⟩))) (hb : Ev C b ρ (dat C.K (.str y))) : Cv C .NotIn a b ρ (!decide (cp ∈ y.cps.toList)) := ⟨_, _, _, op_notInS, fun x y' F H Qv hx hy s q => ⟨cp, y, rp_str hx, rp_str hy, q _ F H (.bl _) (Grow.refl s)⟩, ha, hb⟩
def isNonD : PyData → Bool
  | .none => true
  | _ => false
theorem isNon_rp {K : PySem.W.Frag} {F : Hp} {v : V} {d : PyData} (h : Rp K F v d) : decide (v = .non) = isNonD d := by cases h <;> rfl
theorem cv_isN {d : PyData} {j} {p} (ha : Ev C a ρ (dat C.K d)) : Cv C .Is a (.Constant .none j p) ρ (isNonD d) := ⟨_, _, _, op_isN, fun x y F H Qv hx hy s q => ⟨rp_non hy, q _ F H (by rw [isNon_rp hx]; exact .bl _) (Grow.refl s)⟩, ha, ev_non⟩
theorem cv_notN {d : PyData} {j} {p} (ha : Ev C a ρ (dat C.K d)) : Cv C .IsNot a (.Constant .none j p) ρ (!isNonD d) := ⟨_, _, _, op_notN, fun x y F H Qv hx hy s q => ⟨rp_non hy, q _ F H (by rw [isNon_rp hx]; exact .bl _) (Grow.refl s)⟩, ha, ev_non⟩
theorem cv_isB {p q : Bool} (ha : Ev C a ρ (dat C.K (.bool p))) (hb : Ev C b ρ (dat C.K (.bool q))) : Cv C .Is a b ρ (p == q) := ⟨_, _, _, op_isBl, fun x y F H Qv hx hy s k => by
    cases rp_bl hx; cases rp_bl hy
    exact ⟨_, _, rfl, rfl, k _ F H (by cases p <;> cases q <;> exact .bl _) (Grow.refl s)⟩, ha, hb⟩

/-! as values, as tests -/
variable {op op' : CmpOp} {k k' : Bool}
theorem ev_c (h : Cv C op a b ρ k) (hm : behindInMarks op b = false := by first | exact nomark _ | rfl) : Ev C (.Compare a [op] [b] pos) ρ (dat C.K (.bool k)) := by
  obtain ⟨r, T1, T2, ho, ht, ha, hb⟩ := h
  exact ev_cmp ho ht ha hb hm
theorem Tv.of {t : TT} (hp : PT C.X e t) (h : ∀ (σ : L2.St) (F H : Hp), C.S σ F H ρ → ∀ Qv : Bool → Hp → Prop, (∀ F' H', Same F F' → C.S σ F' H' ρ → Qv k H') → t σ H Qv) : Tv C e ρ k := fun Q q σ F H st Qv kk =>
  TD.of hp (h σ F H st Qv fun F' H' s st' => kk k F' H' ρ q s st')
theorem tv_c (h : Cv C op a b ρ k) (hm : behindInMarks op b = false := by first | exact nomark _ | rfl) : Tv C (.Compare a [op] [b] pos) ρ k := by
  obtain ⟨r, T1, T2, ho, ht, ha, hb⟩ := h
  refine Tv.of (pt_cmpR ho pe_d pe_d hm) fun σ F H st Qv kk => ?_
  refine ha (fun T ρ1 => T = T1 ∧ ρ1 = ρ) ⟨rfl, rfl⟩ σ F H st _ fun _ x F1 H1 _ h1 p1 s1 st1 => ?_
  obtain ⟨rfl, rfl⟩ := h1
  refine hb (fun T ρ1 => T = T2 ∧ ρ1 = _) ⟨rfl, rfl⟩ σ F1 H1 st1 _ fun _ y F2 H2 _ h2 p2 s2 st2 => ?_
  obtain ⟨rfl, rfl⟩ := h2
  exact ht x y F2 H2 _ (Ty.mono _ s2 p1) p2 st2.sub fun v F' H' pv g => ⟨k, rp_bl pv, kk F' H' ((s1.trans s2).trans g.sF) (st2.grow g)⟩
theorem tw_cmp {op : CmpOp} {r : R2} {Q : Bool → List Sv → Prop} (ho : OpR C.X (compareOp op) r) (h : Ew C a ρ fun T1 ρ1 => Ew C b ρ1 fun T2 ρ2 => ∃ k, BinT r T1 T2 (dat C.K (.bool k)) ∧ Q k ρ2) (hm : behindInMarks op b = false := by first | exact nomark _ | rfl) : Tw C (.Compare a [op] [b] pos) ρ Q := fun σ F H st Qv kk =>
  TD.of (pt_cmpR ho pe_d pe_d hm) (h σ F H st _ fun T1 x F1 H1 ρ1 h1 p1 s1 st1 => h1 σ F1 H1 st1 _ fun T2 y F2 H2 ρ2 h2 p2 s2 st2 => by
    obtain ⟨k, hb, hq⟩ := h2
    exact hb x y F2 H2 _ (T1.mono s2 p1) p2 st2.sub fun v F' H' pv g => ⟨k, rp_bl pv, kk k F' H' ρ2 hq ((s1.trans s2).trans g.sF) (st2.grow g)⟩)
theorem tv_val (h : Ev C e ρ (dat C.K (.bool k))) (he : ∀ whole, isTrue e C.X.env whole = (do let v ← whole; standAt e.pos; holding [v] (truthy v)) := by intro _; rfl) : Tv C e ρ k := Tv.of (pt_val pe_d he) fun σ F H st Qv kk =>
  h (fun T ρ1 => T = dat C.K (.bool k) ∧ ρ1 = ρ) ⟨rfl, rfl⟩ σ F H st _ fun _ x F1 H1 _ h1 p1 s1 st1 => by
    obtain ⟨rfl, rfl⟩ := h1
    exact ⟨k, rp_bl p1, kk F1 H1 s1 st1⟩
theorem tw_val {Q : Bool → List Sv → Prop} (h : Ew C e ρ fun T ρ1 => ∃ k, T = dat C.K (.bool k) ∧ Q k ρ1) (he : ∀ whole, isTrue e C.X.env whole = (do let v ← whole; standAt e.pos; holding [v] (truthy v)) := by intro _; rfl) : Tw C e ρ Q := fun σ F H st Qv kk =>
  TD.of (pt_val pe_d he) (h σ F H st _ fun _ x F1 H1 _ h1 p1 s1 st1 => by
    obtain ⟨k, rfl, hq⟩ := h1
    exact ⟨k, rp_bl p1, kk k F1 H1 _ hq s1 st1⟩)
theorem tv_not (h : Tv C a ρ k) : Tv C (.UnaryOp .Not a pos) ρ (!k) := Tv.of (pt_not pt_d) fun σ F H st Qv kk =>
  h (fun b ρ1 => b = k ∧ ρ1 = ρ) ⟨rfl, rfl⟩ σ F H st _ fun _ F1 H1 _ h1 s1 st1 => by
    obtain ⟨rfl, rfl⟩ := h1
    exact kk F1 H1 s1 st1
theorem tw_not {Q : Bool → List Sv → Prop} (h : Tw C a ρ fun b ρ1 => Q (!b) ρ1) : Tw C (.UnaryOp .Not a pos) ρ Q := fun σ F H st Qv kk =>
  TD.of (pt_not pt_d) (h σ F H st _ fun b F1 H1 ρ1 h1 s1 st1 => kk (!b) F1 H1 ρ1 h1 s1 st1)
theorem tw_w {Q : Bool → List Sv → Prop} (h : Ww C e ρ Q) : Tw C e ρ Q := fun σ F H st Qv kk => TD.of (PW.pt pw_d) (h σ F H st Qv kk)
theorem tv_w (h : Wv C e ρ k) : Tv C e ρ k := fun Q q => tw_w (h Q q)
theorem ww_and1 {Q : Bool → List Sv → Prop} (h : Tw C a ρ Q) : Ww C (.BoolOp .And [a] pos) ρ Q := fun σ F H st Qv kk => WD.of (pw_and1 pt_d) (h σ F H st Qv kk)
theorem ww_or1 {Q : Bool → List Sv → Prop} (h : Tw C a ρ Q) : Ww C (.BoolOp .Or [a] pos) ρ Q := fun σ F H st Qv kk => WD.of (pw_or1 pt_d) (h σ F H st Qv kk)
theorem ww_and {Q : Bool → List Sv → Prop} (h : Tw C a ρ fun k ρ1 => (k = true → Ww C (.BoolOp .And (b :: rest) pos) ρ1 Q) ∧ (k = false → Q false ρ1)) : Ww C (.BoolOp .And (a :: b :: rest) pos) ρ Q := fun σ F H st Qv kk =>
  WD.of (pw_and pt_d pw_d) (h σ F H st _ fun k F1 H1 ρ1 h1 s1 st1 => by
    cases k with
    | true =>
      show WD C.X _ σ H1 Qv
      exact h1.1 rfl σ F1 H1 st1 Qv fun b F2 H2 ρ2 q s2 st2 => kk b F2 H2 ρ2 q (s1.trans s2) st2
    | false =>
      show Qv false H1
      exact kk false F1 H1 ρ1 (h1.2 rfl) s1 st1)
theorem ww_or {Q : Bool → List Sv → Prop} (h : Tw C a ρ fun k ρ1 => (k = false → Ww C (.BoolOp .Or (b :: rest) pos) ρ1 Q) ∧ (k = true → Q true ρ1)) : Ww C (.BoolOp .Or (a :: b :: rest) pos) ρ Q := fun σ F H st Qv kk =>
  WD.of (pw_or pt_d pw_d) (h σ F H st _ fun k F1 H1 ρ1 h1 s1 st1 => by
    cases k with
    | false =>
      show WD C.X _ σ H1 Qv
      exact h1.1 rfl σ F1 H1 st1 Qv fun b F2 H2 ρ2 q s2 st2 => kk b F2 H2 ρ2 q (s1.trans s2) st2
    | true =>
      show Qv true H1
      exact kk true F1 H1 ρ1 (h1.2 rfl) s1 st1)
theorem wv_and1 (h : Tv C a ρ k) : Wv C (.BoolOp .And [a] pos) ρ k := fun Q q => ww_and1 (h Q q)
theorem wv_or1 (h : Tv C a ρ k) : Wv C (.BoolOp .Or [a] pos) ρ k := fun Q q => ww_or1 (h Q q)
theorem wv_and (h : Tv C a ρ k) (h2 : k = true → Wv C (.BoolOp .And (b :: rest) pos) ρ k') : Wv C (.BoolOp .And (a :: b :: rest) pos) ρ (k && k') := fun Q q => ww_and (h _ ⟨fun e => h2 e Q (by subst e; exact q), fun e => by subst e; exact q⟩)
theorem wv_or (h : Tv C a ρ k) (h2 : k = false → Wv C (.BoolOp .Or (b :: rest) pos) ρ k') : Wv C (.BoolOp .Or (a :: b :: rest) pos) ρ (k || k') := fun Q q => ww_or (h _ ⟨fun e => h2 e Q (by subst e; exact q), fun e => by subst e; exact q⟩)
/-! and, or, not as values of truth values -/
theorem ew_one {op} (h : Ew C a ρ Q) : Ew C (.BoolOp op [a] pos) ρ Q := fun σ F H st Qv kk => ED.of (pe_one pe_d) (h σ F H st Qv kk)
theorem ev_one {op} (h : Ev C a ρ T) : Ev C (.BoolOp op [a] pos) ρ T := fun Q q => ew_one (h Q q)
theorem ew_and (h : Ew C a ρ fun T ρ1 => ∃ k, T = dat C.K (.bool k) ∧ (k = true → Ew C (.BoolOp .And (b :: rest) pos) ρ1 Q) ∧ (k = false → Q (dat C.K (.bool false)) ρ1)) : Ew C (.BoolOp .And (a :: b :: rest) pos) ρ Q := fun σ F H st Qv kk =>
  ED.of (pe_and pe_d pe_d) (h σ F H st _ fun T v F1 H1 ρ1 h1 p1 s1 st1 => by
    obtain ⟨k, rfl, h2, h3⟩ := h1
    refine ⟨k, rp_bl p1, ?_⟩
    cases k with
    | true =>
      show ED C.X _ σ H1 Qv
      exact h2 rfl σ F1 H1 st1 Qv fun T v F2 H2 ρ2 q p s2 st2 => kk T v F2 H2 ρ2 q p (s1.trans s2) st2
    | false =>
      show Qv (.bl false) H1
      exact kk _ _ F1 H1 ρ1 (h3 rfl) (.bl false) s1 st1)
theorem ew_or (h : Ew C a ρ fun T ρ1 => ∃ k, T = dat C.K (.bool k) ∧ (k = false → Ew C (.BoolOp .Or (b :: rest) pos) ρ1 Q) ∧ (k = true → Q (dat C.K (.bool true)) ρ1)) : Ew C (.BoolOp .Or (a :: b :: rest) pos) ρ Q := fun σ F H st Qv kk =>
  ED.of (pe_or pe_d pe_d) (h σ F H st _ fun T v F1 H1 ρ1 h1 p1 s1 st1 => by
    obtain ⟨k, rfl, h2, h3⟩ := h1
    refine ⟨k, rp_bl p1, ?_⟩
    cases k with
    | false =>
      show ED C.X _ σ H1 Qv
      exact h2 rfl σ F1 H1 st1 Qv fun T v F2 H2 ρ2 q p s2 st2 => kk T v F2 H2 ρ2 q p (s1.trans s2) st2
    | true =>
      show Qv (.bl true) H1
      exact kk _ _ F1 H1 ρ1 (h3 rfl) (.bl true) s1 st1)
theorem ev_and (h : Ev C a ρ (dat C.K (.bool k))) (h2 : k = true → Ev C (.BoolOp .And (b :: rest) pos) ρ (dat C.K (.bool k'))) : Ev C (.BoolOp .And (a :: b :: rest) pos) ρ (dat C.K (.bool (k && k'))) := fun Q q =>
  ew_and (h _ ⟨k, rfl, fun e => h2 e Q (by subst e; exact q), fun e => by subst e; exact q⟩)
theorem ev_or (h : Ev C a ρ (dat C.K (.bool k))) (h2 : k = false → Ev C (.BoolOp .Or (b :: rest) pos) ρ (dat C.K (.bool k'))) : Ev C (.BoolOp .Or (a :: b :: rest) pos) ρ (dat C.K (.bool (k || k'))) := fun Q q =>
  ew_or (h _ ⟨k, rfl, fun e => h2 e Q (by subst e; exact q), fun e => by subst e; exact q⟩)
theorem ew_not (h : Ew C a ρ fun T ρ1 => ∃ k, T = dat C.K (.bool k) ∧ Q (dat C.K (.bool (!k))) ρ1) : Ew C (.UnaryOp .Not a pos) ρ Q := fun σ F H st Qv kk =>
  ED.of (pe_not pe_d) (h σ F H st _ fun T v F1 H1 ρ1 h1 p1 s1 st1 => by
    obtain ⟨k, rfl, h2⟩ := h1
    exact ⟨k, rp_bl p1, kk _ _ F1 H1 ρ1 h2 (.bl _) s1 st1⟩)
theorem ev_not (h : Ev C a ρ (dat C.K (.bool k))) : Ev C (.UnaryOp .Not a pos) ρ (dat C.K (.bool (!k))) := fun Q q => ew_not (h _ ⟨k, rfl, q⟩)
theorem ew_if (h : Tw C c ρ fun k ρ1 => (k = true → Ew C a ρ1 Q) ∧ (k = false → Ew C b ρ1 Q)) : Ew C (.IfExp c a b pos) ρ Q := fun σ F H st Qv kk =>
  ED.of (pe_ifExp pt_d pe_d pe_d) (h σ F H st _ fun k F1 H1 ρ1 h1 s1 st1 => by
    cases k with
    | true =>
      show ED C.X _ σ H1 Qv
      exact h1.1 rfl σ F1 H1 st1 Qv fun T v F2 H2 ρ2 q p s2 st2 => kk T v F2 H2 ρ2 q p (s1.trans s2) st2
    | false =>
      show ED C.X _ σ H1 Qv
      exact h1.2 rfl σ F1 H1 st1 Qv fun T v F2 H2 ρ2 q p s2 st2 => kk T v F2 H2 ρ2 q p (s1.trans s2) st2)
theorem ev_if (h : Tv C c ρ k) (h1 : k = true → Ev C a ρ T) (h2 : k = false → Ev C b ρ T) : Ev C (.IfExp c a b pos) ρ T := fun Q q => ew_if (h _ ⟨fun e => h1 e Q q, fun e => h2 e Q q⟩)

/-! ### arguments -/
theorem aw_nil {Q : List Ty → List Sv → Prop} (q : Q [] ρ) : Aw C [] ρ Q := fun σ F H st Qv kk => AD.of pa_nil (kk [] [] F H ρ q .nil (Same.refl _) st)
theorem aw_cons {Q : List Ty → List Sv → Prop} (h : Ew C e ρ fun T ρ1 => Aw C es ρ1 fun Ts ρ2 => Q (T :: Ts) ρ2) (hs : starEach (e :: es) C.X.env = (false, eval e C.X.env) :: starEach es C.X.env := by rfl) : Aw C (e :: es) ρ Q := fun σ F H st Qv kk =>
  AD.of (pa_cons pe_d pa_d hs) (h σ F H st _ fun T v F1 H1 ρ1 h1 p1 s1 st1 => h1 σ F1 H1 st1 _ fun Ts vs F2 H2 ρ2 h2 p2 s2 st2 => kk _ _ F2 H2 ρ2 h2 (.cons (T.mono s2 p1) p2) (s1.trans s2) st2)
theorem av_nil : Av C [] ρ [] := fun Q q => aw_nil q
theorem av_cons {Ts : List Ty} (h : Ev C e ρ T) (h2 : Av C es ρ Ts) (hs : starEach (e :: es) C.X.env = (false, eval e C.X.env) :: starEach es C.X.env := by rfl) : Av C (e :: es) ρ (T :: Ts) := fun Q q => aw_cons (h _ (h2 _ q)) hs

/-! ### calls of built-ins -/
theorem ew_cb {r : List V → Hp → VK → Prop} {ta : TA} (hp : PE C.X e (fun σ H Q => AD C.X es σ H fun vs H1 => r vs H1 Q)) (h : Aw C es ρ fun Ts ρ1 => ∃ T, CallT r Ts T ∧ Q T ρ1) : Ew C e ρ Q := fun σ F H st Qv kk =>
  ED.of hp (h σ F H st _ fun Ts vs F1 H1 ρ1 h1 p1 s1 st1 => by
    obtain ⟨T, ht, hq⟩ := h1
    exact ht vs F1 H1 _ p1 st1.sub fun v F' H' pv g => kk T v F' H' ρ1 hq pv (s1.trans g.sF) (st1.grow g))
end
end Lk

namespace Lk
open PySem PySem.Spec PyProof.Rows L2

section
variable {C : Kx} {ρ : List Sv} {a b c e : Expr} {es rest : List Expr} {pos p : Pos} {T T1 T2 : Ty} {Q : Ty → List Sv → Prop} {P : Po} {i : Nat} {x : Str} {m n l : Int} {z y : Str} {k k' : Bool} {d d' : PyData} {ds : List PyData} {Ts : List Ty}

/-! ### a op b op' c, ints -/
theorem tv_chain {op op' : CmpOp} {f g : Int → Int → Bool} (ho : OpR C.X (compareOp op) (rI0 fun i j => .bl (f i j))) (ho' : OpR C.X (compareOp op') (rI0 fun i j => .bl (g i j))) (ha : Ev C a ρ (dat C.K (.int m))) (hb : Ev C b ρ (dat C.K (.int n))) (hc : Ev C c ρ (dat C.K (.int l)))
    (hm : lastMarks [op, op'] [b, c] = false := by with_unfolding_all rfl) : Tv C (.Compare a [op, op'] [b, c] pos) ρ (f m n && g n l) := Tv.of (pt_chain ho ho' pe_d pe_d pe_d hm) fun σ F H st Qv kk =>
  ha (fun T ρ1 => T = dat C.K (.int m) ∧ ρ1 = ρ) ⟨rfl, rfl⟩ σ F H st _ fun _ x F1 H1 _ h1 p1 s1 st1 => by
    obtain ⟨rfl, rfl⟩ := h1
    refine hb (fun T ρ1 => T = dat C.K (.int n) ∧ ρ1 = _) ⟨rfl, rfl⟩ σ F1 H1 st1 _ fun _ y F2 H2 _ h2 p2 s2 st2 => ?_
    obtain ⟨rfl, rfl⟩ := h2
    cases rp_int p1
    cases rp_int p2
    refine ⟨m, n, rfl, rfl, f m n, rfl, ?_⟩
    cases hf : f m n with
    | false =>
      show ∃ k, V.bl false = V.bl k ∧ _
      refine ⟨false, rfl, ?_⟩
      have kk' := kk F2 H2 (s1.trans s2) st2
      rw [hf] at kk'
      exact kk'
    | true =>
      show ED C.X c σ H2 _
      refine hc (fun T ρ1 => T = dat C.K (.int l) ∧ ρ1 = _) ⟨rfl, rfl⟩ σ F2 H2 st2 _ fun _ w F3 H3 _ h3 p3 s3 st3 => ?_
      obtain ⟨rfl, rfl⟩ := h3
      cases rp_int p3
      refine ⟨n, l, rfl, rfl, g n l, rfl, ?_⟩
      have kk' := kk F3 H3 ((s1.trans s2).trans s3) st3
      rw [hf] at kk'
      exact kk'
theorem tv_lele (ha : Ev C a ρ (dat C.K (.int m))) (hb : Ev C b ρ (dat C.K (.int n))) (hc : Ev C c ρ (dat C.K (.int l))) (hm : lastMarks [.LtE, .LtE] [b, c] = false := by with_unfolding_all rfl) : Tv C (.Compare a [.LtE, .LtE] [b, c] pos) ρ (decide (m ≤ n) && decide (n ≤ l)) := tv_chain op_le op_le ha hb hc hm
theorem tv_lelt (ha : Ev C a ρ (dat C.K (.int m))) (hb : Ev C b ρ (dat C.K (.int n))) (hc : Ev C c ρ (dat C.K (.int l))) (hm : lastMarks [.LtE, .Lt] [b, c] = false := by with_unfolding_all rfl) : Tv C (.Compare a [.LtE, .Lt] [b, c] pos) ρ (decide (m ≤ n) && decide (n < l)) := tv_chain op_le op_lt ha hb hc hm
theorem tv_ltlt (ha : Ev C a ρ (dat C.K (.int m))) (hb : Ev C b ρ (dat C.K (.int n))) (hc : Ev C c ρ (dat C.K (.int l))) (hm : lastMarks [.Lt, .Lt] [b, c] = false := by with_unfolding_all rfl) : Tv C (.Compare a [.Lt, .Lt] [b, c] pos) ρ (decide (m < n) && decide (n < l)) := tv_chain op_lt op_lt ha hb hc hm
theorem ev_chain {op op' : CmpOp} {f g : Int → Int → Bool} (ho : OpR C.X (compareOp op) (rI0 fun i j => .bl (f i j))) (ho' : OpR C.X (compareOp op') (rI0 fun i j => .bl (g i j))) (ha : Ev C a ρ (dat C.K (.int m))) (hb : Ev C b ρ (dat C.K (.int n))) (hc : Ev C c ρ (dat C.K (.int l)))
    (hm : lastMarks [op, op'] [b, c] = false := by with_unfolding_all rfl) : Ev C (.Compare a [op, op'] [b, c] pos) ρ (dat C.K (.bool (f m n && g n l))) := fun Q q σ F H st Qv kk => ED.of (pe_chain ho ho' pe_d pe_d pe_d hm) <|
  ha (fun T ρ1 => T = dat C.K (.int m) ∧ ρ1 = ρ) ⟨rfl, rfl⟩ σ F H st _ fun _ x F1 H1 _ h1 p1 s1 st1 => by
    obtain ⟨rfl, rfl⟩ := h1
    refine hb (fun T ρ1 => T = dat C.K (.int n) ∧ ρ1 = _) ⟨rfl, rfl⟩ σ F1 H1 st1 _ fun _ y F2 H2 _ h2 p2 s2 st2 => ?_
    obtain ⟨rfl, rfl⟩ := h2
    cases rp_int p1
    cases rp_int p2
    refine ⟨m, n, rfl, rfl, f m n, rfl, ?_⟩
    cases hf : f m n with
    | false =>
      show Qv (.bl false) H2
      refine kk _ _ F2 H2 _ q ?_ (s1.trans s2) st2
      rw [hf]
      exact .bl false
    | true =>
      show ED C.X c σ H2 _
      refine hc (fun T ρ1 => T = dat C.K (.int l) ∧ ρ1 = _) ⟨rfl, rfl⟩ σ F2 H2 st2 _ fun _ w F3 H3 _ h3 p3 s3 st3 => ?_
      obtain ⟨rfl, rfl⟩ := h3
      cases rp_int p3
      refine ⟨n, l, rfl, rfl, kk _ _ F3 H3 _ q ?_ ((s1.trans s2).trans s3) st3⟩
      rw [hf]
      exact .bl _
theorem ev_lele (ha : Ev C a ρ (dat C.K (.int m))) (hb : Ev C b ρ (dat C.K (.int n))) (hc : Ev C c ρ (dat C.K (.int l))) (hm : lastMarks [.LtE, .LtE] [b, c] = false := by with_unfolding_all rfl) : Ev C (.Compare a [.LtE, .LtE] [b, c] pos) ρ (dat C.K (.bool (decide (m ≤ n) && decide (n ≤ l)))) := ev_chain op_le op_le ha hb hc hm
theorem ev_lelt (ha : Ev C a ρ (dat C.K (.int m))) (hb : Ev C b ρ (dat C.K (.int n))) (hc : Ev C c ρ (dat C.K (.int l))) (hm : lastMarks [.LtE, .Lt] [b, c] = false := by with_unfolding_all rfl) : Ev C (.Compare a [.LtE, .Lt] [b, c] pos) ρ (dat C.K (.bool (decide (m ≤ n) && decide (n < l)))) := ev_chain op_le op_lt ha hb hc hm

/-! ### calls of built-ins -/
theorem ew_callB {id : String} {r : List V → Hp → VK → Prop} (hc : CallR C.X (.builtin id) r) (hg : Gl C.X x) (hm : C.X.mg x = none) (hv : bootBuiltins x = some (.builtin id)) (h : Aw C (e :: es) ρ fun Ts ρ1 => ∃ T, CallT r Ts T ∧ Q T ρ1) (hn : x ≠ "__name__" := by decide) (hdb : (x == ("__debug__" : Str)) = false := by decide)
    (he : starEach (e :: es) C.X.env = (false, eval e C.X.env) :: starEach es C.X.env := by rfl) (hpl : (backTo pos (starEach es C.X.env)).any (·.1) = false := by rfl) : Ew C (.Call (.Name x p) (e :: es) [] pos) ρ Q :=
  ew_cb (ta := tNil) (pe_callB hc hg hm hv pa_d hn hdb he hpl) h
theorem ev_callB {id : String} {r : List V → Hp → VK → Prop} (hc : CallR C.X (.builtin id) r) (ht : CallT r Ts T) (hg : Gl C.X x) (hm : C.X.mg x = none) (hv : bootBuiltins x = some (.builtin id)) (ha : Av C (e :: es) ρ Ts) (hn : x ≠ "__name__" := by decide) (hdb : (x == ("__debug__" : Str)) = false := by decide)
    (he : starEach (e :: es) C.X.env = (false, eval e C.X.env) :: starEach es C.X.env := by rfl) (hpl : (backTo pos (starEach es C.X.env)).any (·.1) = false := by rfl) : Ev C (.Call (.Name x p) (e :: es) [] pos) ρ T := fun Q q =>
  ew_callB hc hg hm hv (ha _ ⟨T, ht, q⟩) hn hdb he hpl
theorem ew_callTy {N : String} {r : List V → Hp → VK → Prop} (hc : CallR C.X (.type N) r) (hg : Gl C.X x) (hm : C.X.mg x = none) (hv : bootBuiltins x = some (.type N)) (h : Aw C (e :: es) ρ fun Ts ρ1 => ∃ T, CallT r Ts T ∧ Q T ρ1) (hn : x ≠ "__name__" := by decide) (hdb : (x == ("__debug__" : Str)) = false := by decide)
    (he : starEach (e :: es) C.X.env = (false, eval e C.X.env) :: starEach es C.X.env := by rfl) (hpl : (backTo pos (starEach es C.X.env)).any (·.1) = false := by rfl) : Ew C (.Call (.Name x p) (e :: es) [] pos) ρ Q :=
  ew_cb (ta := tNil) (pe_callTy hc hg hm hv pa_d hn hdb he hpl) h
theorem ev_callTy {N : String} {r : List V → Hp → VK → Prop} (hc : CallR C.X (.type N) r) (ht : CallT r Ts T) (hg : Gl C.X x) (hm : C.X.mg x = none) (hv : bootBuiltins x = some (.type N)) (ha : Av C (e :: es) ρ Ts) (hn : x ≠ "__name__" := by decide) (hdb : (x == ("__debug__" : Str)) = false := by decide)
    (he : starEach (e :: es) C.X.env = (false, eval e C.X.env) :: starEach es C.X.env := by rfl) (hpl : (backTo pos (starEach es C.X.env)).any (·.1) = false := by rfl) : Ev C (.Call (.Name x p) (e :: es) [] pos) ρ T := fun Q q =>
  ew_callTy hc hg hm hv (ha _ ⟨T, ht, q⟩) hn hdb he hpl

/-! by values: what each gives -/
section
variable {K : PySem.W.Frag} {F H : Hp} {v : V} {vs : List V}
theorem ty1 (h : TyAll F vs [T]) : ∃ v, vs = [v] ∧ T.p v F := by
  cases h with
  | cons h t => cases t; exact ⟨_, rfl, h⟩
theorem ty2 (h : TyAll F vs [T, T1]) : ∃ v w, vs = [v, w] ∧ T.p v F ∧ T1.p w F := by
  cases h with
  | cons h t =>
    cases t with
    | cons h2 t => cases t; exact ⟨_, _, rfl, h, h2⟩
def tyD : PyData → String
  | .none => "NoneType"
  | .bool _ => "bool"
  | .int _ => "int"
  | .str _ => "str"
  | .list _ => "list"
  | .tuple _ => "tuple"
  | .dict _ => "dict"
theorem rp_tyx (h : Rp K F v d) (s : Same F H) : TyX K H v (.type (tyD d)) := by
  cases h with
  | non => exact .base .non
  | bl b => exact .base (.bl b)
  | int i => exact .base (.int i)
  | str y => exact .base (.str y)
  | lst h1 _ => exact .base (.lst (s _ _ h1))
  | tup h1 _ =>
    rcases h1 with (h1 | ⟨o, h1⟩) | ⟨o, its, n, h1, h2, _⟩
    · exact .base (.tup (s _ _ h1))
    · exact .fTuple (s _ _ h1)
    · exact .kTuple h1 h2
theorem ct_isi {N : String} (hk : kitB (tyD d) N = some k) : CallT (rIsi K) [dat K d, val (.ty N)] (dat K (.bool k)) := fun vs F H Qv h s q => by
  obtain ⟨v, w, rfl, h1, h2⟩ := ty2 h
  cases (show w = .ty N from h2)
  exact ⟨v, _, _, _, k, rfl, .ty N, rp_tyx h1 s, kit_ty hk, q _ F H (.bl k) (Grow.refl s)⟩
def lenD : PyData → Option Nat
  | .str z => if z.length ≤ sizeLine then some z.length else none
  | .list ds => some ds.length
  | .tuple ds => some ds.length
  | _ => none
theorem ct_len {n : Nat} (hn : lenD d = some n) : CallT (fun xs H Q => ∃ x n, xs = [x] ∧ LenV K x H n ∧ Q (.int n) H) [dat K d] (dat K (.int (n : Int))) := fun vs F H Qv h s q => by
  obtain ⟨v, rfl, h1⟩ := ty1 h
  refine ⟨v, n, rfl, ?_, q _ F H (.int _) (Grow.refl s)⟩
  cases h1 with
  | non => cases hn
  | bl _ => cases hn
  | int _ => cases hn
  | str z =>
    have hn : (if z.length ≤ sizeLine then some z.length else none) = some n := hn
    by_cases hz : z.length ≤ sizeLine
    · rw [if_pos hz] at hn
      cases hn
      exact ⟨hz, rfl⟩
    · rw [if_neg hz] at hn
      cases hn
  | lst h1 h2 =>
    cases hn
    exact .inl ⟨_, .inl (.inl (s _ _ h1)), by rw [h2.length]⟩
  | tup h1 h2 =>
    cases hn
    exact .inr ⟨_, same_sqT s h1, by rw [h2.length]⟩
theorem ct_abs : CallT (fun xs H Q => ∃ i, xs = [.int i] ∧ Q (.int (if i < 0 then -i else i)) H) [dat K (.int m)] (dat K (.int (if m < 0 then -m else m))) := fun vs F H Qv h s q => by
  obtain ⟨v, rfl, h1⟩ := ty1 h
  cases rp_int h1
  exact ⟨m, rfl, q _ F H (.int _) (Grow.refl s)⟩
theorem ct_int : CallT (fun xs H Q => (∃ i, xs = [.int i] ∧ Q (.int i) H) ∨ ∃ k, xs = [.bl k] ∧ Q (.int (if k then 1 else 0)) H) [dat K (.int m)] (dat K (.int m)) := fun vs F H Qv h s q => by
  obtain ⟨v, rfl, h1⟩ := ty1 h
  cases rp_int h1
  exact .inl ⟨m, rfl, q _ F H (.int _) (Grow.refl s)⟩
theorem ct_intB : CallT (fun xs H Q => (∃ i, xs = [.int i] ∧ Q (.int i) H) ∨ ∃ k, xs = [.bl k] ∧ Q (.int (if k then 1 else 0)) H) [dat K (.bool k)] (dat K (.int (if k then 1 else 0))) := fun vs F H Qv h s q => by
  obtain ⟨v, rfl, h1⟩ := ty1 h
  cases rp_bl h1
  exact .inr ⟨k, rfl, q _ F H (.int _) (Grow.refl s)⟩
theorem ct_intS {n : Int} (hn : PySem.intText? z = some n) (hl : z.length ≤ 640) : CallT (fun xs H Q => ∃ a n, xs = [.str a] ∧ PySem.intText? a = some n ∧ a.length ≤ 640 ∧ Q (.int n) H) [dat K (.str z)] (dat K (.int n)) := fun vs F H Qv h s q => by
  obtain ⟨v, rfl, h1⟩ := ty1 h
  cases rp_str h1
  exact ⟨z, n, rfl, hn, hl, q _ F H (.int _) (Grow.refl s)⟩
theorem ct_strI (hn : m.natAbs.log2 < 1920) : CallT (fun xs H Q => ∃ i, xs = [.int i] ∧ i.natAbs.log2 < 1920 ∧ Q (.str (toString i)) H) [dat K (.int m)] (dat K (.str (toString m))) := fun vs F H Qv h s q => by
  obtain ⟨v, rfl, h1⟩ := ty1 h
  cases rp_int h1
  exact ⟨m, rfl, hn, q _ F H (.str _) (Grow.refl s)⟩
theorem ct_max : CallT (fun xs H Q => ∃ i j, xs = [.int i, .int j] ∧ Q (.int (if j > i then j else i)) H) [dat K (.int m), dat K (.int n)] (dat K (.int (if n > m then n else m))) := fun vs F H Qv h s q => by
  obtain ⟨v, w, rfl, h1, h2⟩ := ty2 h
  cases rp_int h1
  cases rp_int h2
  exact ⟨m, n, rfl, q _ F H (.int _) (Grow.refl s)⟩
theorem ct_min : CallT (fun xs H Q => ∃ i j, xs = [.int i, .int j] ∧ Q (.int (if j < i then j else i)) H) [dat K (.int m), dat K (.int n)] (dat K (.int (if n < m then n else m))) := fun vs F H Qv h s q => by
  obtain ⟨v, w, rfl, h1, h2⟩ := ty2 h
  cases rp_int h1
  cases rp_int h2
  exact ⟨m, n, rfl, q _ F H (.int _) (Grow.refl s)⟩
theorem ct_all {bs : List Bool} : CallT (rAll K) [dat K (.list (bs.map .bool))] (dat K (.bool (bs.all id))) := fun vs F H Qv h s q => by
  obtain ⟨v, rfl, h1⟩ := ty1 h
  cases h1 with
  | lst h1 h2 => exact ⟨_, bs, rfl, by rw [← h2.bls]; exact .inl (.inl (s _ _ h1)), q _ F H (.bl _) (Grow.refl s)⟩
theorem ct_any {bs : List Bool} : CallT (rAny K) [dat K (.list (bs.map .bool))] (dat K (.bool (bs.any id))) := fun vs F H Qv h s q => by
  obtain ⟨v, rfl, h1⟩ := ty1 h
  cases h1 with
  | lst h1 h2 => exact ⟨_, bs, rfl, by rw [← h2.bls]; exact .inl (.inl (s _ _ h1)), q _ F H (.bl _) (Grow.refl s)⟩
theorem ct_tupleL : CallT (fun xs H Q => ∃ p ys, xs = [.ref p] ∧ ((SqL K H p ys ∧ ∀ l, H l = none → Q (.ref l) (upd H l (.tup ys))) ∨ (SqT K H p ys ∧ Q (.ref p) H))) [dat K (.list ds)] (dat K (.tuple ds)) := fun vs F H Qv h s q => by
  obtain ⟨v, rfl, h1⟩ := ty1 h
  cases h1 with
  | @lst a xs _ h1 h2 =>
    refine ⟨_, _, rfl, .inl ⟨.inl (.inl (s _ _ h1)), fun l hl => ?_⟩⟩
    have g := Grow.new (o := .tup xs) s hl
    exact q _ _ _ (.tup (.inl (.inl upd_same)) (RpAll.mono g.sF _ _ h2)) g
theorem ct_tupleT : CallT (fun xs H Q => ∃ p ys, xs = [.ref p] ∧ ((SqL K H p ys ∧ ∀ l, H l = none → Q (.ref l) (upd H l (.tup ys))) ∨ (SqT K H p ys ∧ Q (.ref p) H))) [dat K (.tuple ds)] (dat K (.tuple ds)) := fun vs F H Qv h s q => by
  obtain ⟨v, rfl, h1⟩ := ty1 h
  cases h1 with
  | tup h1 h2 => exact ⟨_, _, rfl, .inr ⟨same_sqT s h1, q _ F H (.tup h1 h2) (Grow.refl s)⟩⟩
end
variable {x : Str}
theorem ev_len {n : Nat} (hg : Gl C.X "len") (hm : C.X.mg "len" = none) (ha : Ev C a ρ (dat C.K d)) (hn : lenD d = some n) (he : starEach [a] C.X.env = [(false, eval a C.X.env)] := by rfl) : Ev C (.Call (.Name "len" p) [a] [] pos) ρ (dat C.K (.int (n : Int))) := ev_callB call_len (ct_len hn) hg hm boot_len (av_cons ha av_nil he) (he := he)
theorem ev_isi {N : String} (hg : Gl C.X "isinstance") (hm : C.X.mg "isinstance" = none) (ha : Ev C a ρ (dat C.K d)) (hb : Ev C b ρ (val (.ty N))) (hk : kitB (tyD d) N = some k) (he : starEach [a, b] C.X.env = (false, eval a C.X.env) :: starEach [b] C.X.env := by rfl) (he2 : starEach [b] C.X.env = (false, eval b C.X.env) :: starEach [] C.X.env := by rfl) (hpl : (backTo pos (starEach [b] C.X.env)).any (·.1) = false := by rfl) : Ev C (.Call (.Name "isinstance" p) [a, b] [] pos) ρ (dat C.K (.bool k)) :=
  ev_callB call_isi (ct_isi hk) hg hm (by decide +kernel) (av_cons ha (av_cons hb av_nil he2) he) (he := he) (hpl := hpl)
theorem ev_abs (hg : Gl C.X "abs") (hm : C.X.mg "abs" = none) (ha : Ev C a ρ (dat C.K (.int m))) (he : starEach [a] C.X.env = [(false, eval a C.X.env)] := by rfl) : Ev C (.Call (.Name "abs" p) [a] [] pos) ρ (dat C.K (.int (if m < 0 then -m else m))) := ev_callB call_abs ct_abs hg hm (by decide +kernel) (av_cons ha av_nil he) (he := he)
theorem ev_max (hc : C.X.calm = true) (hg : Gl C.X "max") (hm : C.X.mg "max" = none) (ha : Ev C a ρ (dat C.K (.int m))) (hb : Ev C b ρ (dat C.K (.int n))) (he : starEach [a, b] C.X.env = (false, eval a C.X.env) :: starEach [b] C.X.env := by rfl) (he2 : starEach [b] C.X.env = (false, eval b C.X.env) :: starEach [] C.X.env := by rfl) (hpl : (backTo pos (starEach [b] C.X.env)).any (·.1) = false := by rfl) : Ev C (.Call (.Name "max" p) [a, b] [] pos) ρ (dat C.K (.int (if n > m then n else m))) := ev_callB (call_max2 hc) ct_max hg hm (by decide +kernel) (av_cons ha (av_cons hb av_nil he2) he) (he := he) (hpl := hpl)
theorem ev_min (hc : C.X.calm = true) (hg : Gl C.X "min") (hm : C.X.mg "min" = none) (ha : Ev C a ρ (dat C.K (.int m))) (hb : Ev C b ρ (dat C.K (.int n))) (he : starEach [a, b] C.X.env = (false, eval a C.X.env) :: starEach [b] C.X.env := by rfl) (he2 : starEach [b] C.X.env = (false, eval b C.X.env) :: starEach [] C.X.env := by rfl) (hpl : (backTo pos (starEach [b] C.X.env)).any (·.1) = false := by rfl) : Ev C (.Call (.Name "min" p) [a, b] [] pos) ρ (dat C.K (.int (if n < m then n else m))) := ev_callB (call_min2 hc) ct_min hg hm (by decide +kernel) (av_cons ha (av_cons hb av_nil he2) he) (he := he) (hpl := hpl)
theorem ev_all {bs : List Bool} (hc : C.X.calm = true) (hg : Gl C.X "all") (hm : C.X.mg "all" = none) (ha : Ev C a ρ (dat C.K (.list (bs.map .bool)))) (he : starEach [a] C.X.env = [(false, eval a C.X.env)] := by rfl) : Ev C (.Call (.Name "all" p) [a] [] pos) ρ (dat C.K (.bool (bs.all id))) := ev_callB (cr_all hc) ct_all hg hm (by decide +kernel) (av_cons ha av_nil he) (he := he)
theorem ev_any {bs : List Bool} (hc : C.X.calm = true) (hg : Gl C.X "any") (hm : C.X.mg "any" = none) (ha : Ev C a ρ (dat C.K (.list (bs.map .bool)))) (he : starEach [a] C.X.env = [(false, eval a C.X.env)] := by rfl) : Ev C (.Call (.Name "any" p) [a] [] pos) ρ (dat C.K (.bool (bs.any id))) := ev_callB (cr_any hc) ct_any hg hm (by decide +kernel) (av_cons ha av_nil he) (he := he)
theorem ev_intI (hg : Gl C.X "int") (hm : C.X.mg "int" = none) (ha : Ev C a ρ (dat C.K (.int m))) (he : starEach [a] C.X.env = [(false, eval a C.X.env)] := by rfl) : Ev C (.Call (.Name "int" p) [a] [] pos) ρ (dat C.K (.int m)) := ev_callTy call_int1 ct_int hg hm boot_int (av_cons ha av_nil he) (he := he)
theorem ev_intB (hg : Gl C.X "int") (hm : C.X.mg "int" = none) (ha : Ev C a ρ (dat C.K (.bool k))) (he : starEach [a] C.X.env = [(false, eval a C.X.env)] := by rfl) : Ev C (.Call (.Name "int" p) [a] [] pos) ρ (dat C.K (.int (if k then 1 else 0))) := ev_callTy call_int1 ct_intB hg hm boot_int (av_cons ha av_nil he) (he := he)
theorem ev_intS (hg : Gl C.X "int") (hm : C.X.mg "int" = none) (ha : Ev C a ρ (dat C.K (.str z))) (hn : PySem.intText? z = some n) (hl : z.length ≤ 640) (he : starEach [a] C.X.env = [(false, eval a C.X.env)] := by rfl) : Ev C (.Call (.Name "int" p) [a] [] pos) ρ (dat C.K (.int n)) := ev_callTy call_int_str (ct_intS hn hl) hg hm boot_int (av_cons ha av_nil he) (he := he)
theorem ev_strI (hg : Gl C.X "str") (hm : C.X.mg "str" = none) (ha : Ev C a ρ (dat C.K (.int m))) (hn : m.natAbs.log2 < 1920) (he : starEach [a] C.X.env = [(false, eval a C.X.env)] := by rfl) : Ev C (.Call (.Name "str" p) [a] [] pos) ρ (dat C.K (.str (toString m))) := ev_callTy call_str_int (ct_strI hn) hg hm (by decide +kernel) (av_cons ha av_nil he) (he := he)
theorem ev_tupleL (hg : Gl C.X "tuple") (hm : C.X.mg "tuple" = none) (ha : Ev C a ρ (dat C.K (.list ds))) (he : starEach [a] C.X.env = [(false, eval a C.X.env)] := by rfl) : Ev C (.Call (.Name "tuple" p) [a] [] pos) ρ (dat C.K (.tuple ds)) := ev_callTy call_tuple_of ct_tupleL hg hm (by decide +kernel) (av_cons ha av_nil he) (he := he)
end
end Lk

namespace Lk
open PySem PySem.Spec PyProof.Rows L2

/-! ### a new list of one's own -/
def Ow (C : Kx) (e : Expr) (ρ : List Sv) (Q : List PyData → List Sv → Prop) : Prop := ∀ (σ : L2.St) (F H : Hp), C.S σ F H ρ → ∀ Qv : VK,
  (∀ ds l vs F' H' ρ', Q ds ρ' → H' l = none → RpAll C.K F' vs ds → Same F F' → C.S σ F' H' ρ' → Qv (.ref l) (upd H' l (.lst vs))) → ED C.X e σ H Qv
def Ov (C : Kx) (e : Expr) (ρ : List Sv) (ds : List PyData) : Prop := ∀ Q : List PyData → List Sv → Prop, Q ds ρ → Ow C e ρ Q
section
variable {C : Kx} {ρ : List Sv} {a b c e : Expr} {es rest : List Expr} {pos p : Pos} {T T1 T2 : Ty} {Q : Ty → List Sv → Prop} {P : Po} {i : Nat} {x : Str} {m n l : Int} {z y : Str} {k k' : Bool} {d d' : PyData} {ds : List PyData} {Ts : List Ty}
theorem Ow.ew (h : Ow C e ρ fun ds ρ' => Q (dat C.K (.list ds)) ρ') : Ew C e ρ Q := fun σ F H st Qv kk => h σ F H st Qv fun ds l vs F' H' ρ' q n r s st' => by
  have g := Grow.new (o := .lst vs) st'.sub n
  exact kk _ _ _ _ ρ' q (.lst upd_same (RpAll.mono g.sF _ _ r)) (s.trans g.sF) (st'.grow g)
theorem Ov.ev (h : Ov C e ρ ds) : Ev C e ρ (dat C.K (.list ds)) := fun Q q => Ow.ew (h _ q)
theorem rp_datas {K : PySem.W.Frag} {F : Hp} : ∀ {ds : List PyData} {vs : List V}, TyAll F vs (ds.map (dat K)) → RpAll K F vs ds
  | [], _, h => by cases h; exact .nil
  | d :: ds, _, h => by
    cases h with
    | cons h t => exact .cons h (rp_datas t)
theorem ow_lst {Q : List PyData → List Sv → Prop} (h : Aw C es ρ fun Ts ρ1 => ∃ ds, Ts = ds.map (dat C.K) ∧ ds.length ≤ sizeLine ∧ Q ds ρ1) : Ow C (.List es pos) ρ Q := fun σ F H st Qv kk =>
  ED.of (pe_lst pa_d) (h σ F H st _ fun Ts vs F1 H1 ρ1 h1 p1 s1 st1 => by
    obtain ⟨ds, rfl, hl, hq⟩ := h1
    have r := rp_datas p1
    exact ⟨by rw [r.length]; exact hl, fun l hn => kk ds l vs F1 H1 ρ1 hq hn r s1 st1⟩)
theorem ov_lst (h : Av C es ρ (ds.map (dat C.K))) (hl : ds.length ≤ sizeLine) : Ov C (.List es pos) ρ ds := fun Q q => ow_lst (h _ ⟨ds, rfl, hl, q⟩)
theorem ew_tup {x1} (h : Aw C es ρ fun Ts ρ1 => ∃ ds, Ts = ds.map (dat C.K) ∧ ds.length ≤ sizeLine ∧ Q (dat C.K (.tuple ds)) ρ1) : Ew C (.Tuple es x1 pos) ρ Q := fun σ F H st Qv kk =>
  ED.of (pe_tup pa_d) (h σ F H st _ fun Ts vs F1 H1 ρ1 h1 p1 s1 st1 => by
    obtain ⟨ds, rfl, hl, hq⟩ := h1
    have r := rp_datas p1
    refine ⟨by rw [r.length]; exact hl, fun l hn => ?_⟩
    have g := Grow.new (o := .tup vs) st1.sub hn
    exact kk _ _ _ _ ρ1 hq (.tup (.inl (.inl upd_same)) (RpAll.mono g.sF _ _ r)) (s1.trans g.sF) (st1.grow g))
theorem ev_tup {x1} (h : Av C es ρ (ds.map (dat C.K))) (hl : ds.length ≤ sizeLine) : Ev C (.Tuple es x1 pos) ρ (dat C.K (.tuple ds)) := fun Q q => ew_tup (h _ ⟨ds, rfl, hl, q⟩)
/-- .. ⟨head, tail⟩ forms for lists of data -/
theorem av_d {ds : List PyData} (h : Ev C e ρ (dat C.K d)) (h2 : Av C es ρ (ds.map (dat C.K))) (hs : starEach (e :: es) C.X.env = (false, eval e C.X.env) :: starEach es C.X.env := by rfl) : Av C (e :: es) ρ ((d :: ds).map (dat C.K)) := av_cons h h2 hs
theorem av_dn : Av C [] ρ (([] : List PyData).map (dat C.K)) := av_nil

/-! ### slices -/
def cutD (ds : List PyData) (lo hi : Option Int) : List PyData := (ds.drop (HT.sIx ds.length 0 lo)).take (HT.sIx ds.length ds.length hi - HT.sIx ds.length 0 lo)
theorem cut_rp {K : PySem.W.Frag} {F : Hp} {vs : List V} {lo hi : Option Int} (h : RpAll K F vs ds) : RpAll K F (cutV vs lo hi) (cutD ds lo hi) := by
  unfold cutV cutD
  rw [h.length]
  exact (h.drop _).take _
/-- an end of a slice -/
def Ev? (C : Kx) (o : Option Expr) (ρ : List Sv) (v : Option Int) : Prop := match o, v with
  | none, none => True
  | some e, some i => Ev C e ρ (dat C.K (.int i))
  | _, _ => False
theorem ev_slice {r : V → Option Int → Option Int → Hp → VK → Prop} {lo hi : Option Expr} {vl vh : Option Int} {p2 : Pos} (hr : SlR C.X r) (ht : ∀ (x : V) F H (Qv : VK), T1.p x F → Same F H → (∀ v F' H', T.p v F' → Grow F H F' H' → Qv v H') → r x vl vh H Qv)
    (ha : Ev C a ρ T1) (hl : Ev? C lo ρ vl) (hh : Ev? C hi ρ vh) : Ev C (.Subscript a (.Slice lo hi none p2) pos) ρ T := fun Q q σ F H st Qv kk => by
  have part : ∀ (o : Option Expr) (vo : Option Int), Ev? C o ρ vo → ∃ t, PO C.X o t ∧ ∀ (σ : L2.St) (F H : Hp), C.S σ F H ρ → ∀ Qo : Option Int → Hp → Prop, (∀ F' H', Same F F' → C.S σ F' H' ρ → Qo vo H') → t σ H Qo := fun o vo ho => by
    cases o with
    | none =>
      cases vo with
      | none => exact ⟨_, po_none, fun σ F H st Qo ko => ko F H (Same.refl _) st⟩
      | some _ => exact ho.elim
    | some e =>
      cases vo with
      | none => exact ho.elim
      | some i =>
        refine ⟨_, po_some pe_d, fun σ F H st Qo ko => ?_⟩
        refine (show Ev C e ρ (dat C.K (.int i)) from ho) (fun T ρ1 => T = dat C.K (.int i) ∧ ρ1 = ρ) ⟨rfl, rfl⟩ σ F H st _ fun _ v F1 H1 _ h1 p1 s1 st1 => ?_
        obtain ⟨rfl, rfl⟩ := h1
        exact ⟨i, rp_int p1, ko F1 H1 s1 st1⟩
  obtain ⟨tl, pl, kl⟩ := part lo vl hl
  obtain ⟨th, ph, kh⟩ := part hi vh hh
  refine ED.of (pe_slice hr pe_d pl ph) ?_
  refine ha (fun T ρ1 => T = T1 ∧ ρ1 = ρ) ⟨rfl, rfl⟩ σ F H st _ fun _ x F1 H1 _ h1 p1 s1 st1 => ?_
  obtain ⟨rfl, rfl⟩ := h1
  refine kl σ F1 H1 st1 _ fun F2 H2 s2 st2 => kh σ F2 H2 st2 _ fun F3 H3 s3 st3 => ?_
  exact ht x F3 H3 _ (Ty.mono _ (s2.trans s3) p1) st3.sub fun v F' H' pv g => kk _ v F' H' _ q pv (((s1.trans s2).trans s3).trans g.sF) (st3.grow g)
theorem ev_slS {lo hi : Option Expr} {vl vh : Option Int} {p2 : Pos} (ha : Ev C a ρ (dat C.K (.str z))) (hl : Ev? C lo ρ vl) (hh : Ev? C hi ρ vh) (hz : z.length ≤ sizeLine) : Ev C (.Subscript a (.Slice lo hi none p2) pos) ρ (dat C.K (.str (cutS z vl vh))) :=
  ev_slice sl_str (fun x F H Qv hx s q => by cases rp_str hx; exact ⟨z, rfl, hz, q _ F H (.str _) (Grow.refl s)⟩) ha hl hh
theorem ev_slL {lo hi : Option Expr} {vl vh : Option Int} {p2 : Pos} (ha : Ev C a ρ (dat C.K (.list ds))) (hl : Ev? C lo ρ vl) (hh : Ev? C hi ρ vh) : Ev C (.Subscript a (.Slice lo hi none p2) pos) ρ (dat C.K (.list (cutD ds vl vh))) :=
  ev_slice sl_list (fun x F H Qv hx s q => by
    cases hx with
    | @lst a xs _ h1 h2 =>
      refine ⟨a, xs, rfl, .inl (.inl (s _ _ h1)), fun l hn => ?_⟩
      have g := Grow.new (o := .lst (cutV xs vl vh)) s hn
      exact q _ _ _ (.lst upd_same (RpAll.mono g.sF _ _ (cut_rp h2))) g) ha hl hh

/-! ### what is walked -/
structure ItOk (K : PySem.W.Frag) (J : It) (F : Hp) (its : List PyData) : Prop where
  go : ∀ (i : Nat) d F2 H2, its[i]? = some d → Same F F2 → Same F2 H2 → J.go i H2 ∧ ∀ x H', J.yld i H2 x H' → ∃ F', Grow F2 H2 F' H' ∧ Rp K F' x d
  stop : ∀ F2 H2, Same F F2 → Same F2 H2 → J.stop its.length H2
def Src (C : Kx) (wi : TI) (ρ : List Sv) (its : List PyData) : Prop := ∀ (σ : L2.St) (F H : Hp), C.S σ F H ρ → ∀ R : It → Hp → Prop,
  (∀ J F' H', Same F F' → C.S σ F' H' ρ → ItOk C.K J F' its → R J H') → wi σ H R
theorem it_list {K : PySem.W.Frag} {F : Hp} {a : Addr} {xs : List V} (h1 : F a = some (.lst xs)) (h2 : RpAll K F xs ds) : ItOk K (Itl K a) F ds := by
  refine ⟨fun i d F2 H2 e s s2 => ?_, fun F2 H2 s s2 => ?_⟩
  · obtain ⟨v, ev, rv⟩ := h2.get' e
    have q : SqL K H2 a xs := .inl (.inl (s2 _ _ (s _ _ h1)))
    refine ⟨⟨xs, v, q, ev⟩, fun x H' y => ?_⟩
    obtain ⟨rfl, y⟩ := y
    have e1 := y xs q
    rw [ev] at e1
    cases e1
    exact ⟨F2, Grow.refl s2, Rp.mono s _ _ rv⟩
  · exact ⟨xs, .inl (.inl (s2 _ _ (s _ _ h1))), by rw [h2.length]; exact Nat.le_refl _⟩
theorem it_tup {K : PySem.W.Frag} {F : Hp} {a : Addr} {xs : List V} (h1 : SqT K F a xs) (h2 : RpAll K F xs ds) : ItOk K (Itt K a) F ds := by
  refine ⟨fun i d F2 H2 e s s2 => ?_, fun F2 H2 s s2 => ?_⟩
  · obtain ⟨v, ev, rv⟩ := h2.get' e
    have q : SqT K H2 a xs := same_sqT s2 (same_sqT s h1)
    refine ⟨⟨xs, v, q, ev⟩, fun x H' y => ?_⟩
    obtain ⟨rfl, y⟩ := y
    have e1 := y xs q
    rw [ev] at e1
    cases e1
    exact ⟨F2, Grow.refl s2, Rp.mono s _ _ rv⟩
  · exact ⟨xs, same_sqT s2 (same_sqT s h1), by rw [h2.length]; exact Nat.le_refl _⟩
theorem it_str {K : PySem.W.Frag} {F : Hp} : ItOk K (Its z) F (z.cps.toList.map fun c => .str ⟨#[c]⟩) := by
  refine ⟨fun i d F2 H2 e s s2 => ?_, fun F2 H2 s s2 => ?_⟩
  · rw [List.getElem?_map] at e
    cases hc : z.cps.toList[i]? with
    | none => rw [hc] at e; cases e
    | some c =>
      rw [hc] at e
      cases e
      have hlt := (List.getElem?_eq_some_iff.mp hc).1
      rw [Array.length_toList] at hlt
      refine ⟨hlt, fun x H' y => ?_⟩
      obtain ⟨rfl, c', e1, rfl⟩ := y
      rw [← Array.getElem?_toList, hc] at e1
      cases e1
      exact ⟨F2, Grow.refl s2, .str _⟩
  · show z.cps.size ≤ _
    rw [List.length_map, Array.length_toList]
    exact Nat.le_refl _
theorem it_range {K : PySem.W.Frag} {F : Hp} {lo : Int} {n : Nat} : ItOk K (Itr lo n) F ((List.range n).map fun j : Nat => .int (lo + (j : Int))) := by
  refine ⟨fun i d F2 H2 e s s2 => ?_, fun F2 H2 s s2 => ?_⟩
  · rw [List.getElem?_map] at e
    by_cases hi : i < n
    · rw [List.getElem?_range hi] at e
      cases e
      refine ⟨hi, fun x H' y => ?_⟩
      obtain ⟨rfl, rfl⟩ := y
      exact ⟨F2, Grow.refl s2, .int _⟩
    · rw [List.getElem?_eq_none (by rw [List.length_range]; omega)] at e
      cases e
  · show n ≤ _
    rw [List.length_map, List.length_range]
    exact Nat.le_refl _
theorem src_list (h : Ev C a ρ (dat C.K (.list ds))) : Src C (iList C.X.K (ED C.X a)) ρ ds := fun σ F H st R kk =>
  h (fun T ρ1 => T = dat C.K (.list ds) ∧ ρ1 = ρ) ⟨rfl, rfl⟩ σ F H st _ fun _ v F1 H1 _ h1 p1 s1 st1 => by
    obtain ⟨rfl, rfl⟩ := h1
    cases p1 with
    | lst q1 q2 => exact ⟨_, rfl, ⟨_, .inl (.inl (st1.sub _ _ q1))⟩, kk _ F1 H1 s1 st1 (it_list q1 q2)⟩
theorem src_tup (h : Ev C a ρ (dat C.K (.tuple ds))) : Src C (iTup C.X.K (ED C.X a)) ρ ds := fun σ F H st R kk =>
  h (fun T ρ1 => T = dat C.K (.tuple ds) ∧ ρ1 = ρ) ⟨rfl, rfl⟩ σ F H st _ fun _ v F1 H1 _ h1 p1 s1 st1 => by
    obtain ⟨rfl, rfl⟩ := h1
    cases p1 with
    | tup q1 q2 => exact ⟨_, rfl, ⟨_, same_sqT st1.sub q1⟩, kk _ F1 H1 s1 st1 (it_tup q1 q2)⟩
theorem src_str (h : Ev C a ρ (dat C.K (.str z))) : Src C (iStr (ED C.X a)) ρ (z.cps.toList.map fun c => .str ⟨#[c]⟩) := fun σ F H st R kk =>
  h (fun T ρ1 => T = dat C.K (.str z) ∧ ρ1 = ρ) ⟨rfl, rfl⟩ σ F H st _ fun _ v F1 H1 _ h1 p1 s1 st1 => by
    obtain ⟨rfl, rfl⟩ := h1
    exact ⟨z, rp_str p1, kk _ F1 H1 s1 st1 it_str⟩
theorem src_range1 (h : Ev C a ρ (dat C.K (.int n))) (h1 : -(2 ^ 62) ≤ n) (h2 : n < 2 ^ 62) (he : starEach [a] C.X.env = (false, eval a C.X.env) :: starEach [] C.X.env := by rfl) : Src C (iRng1 (AD C.X [a])) ρ ((List.range n.toNat).map fun j : Nat => .int (0 + (j : Int))) := fun σ F H st R kk =>
  (av_cons h av_nil he) (fun Ts ρ1 => Ts = [dat C.K (.int n)] ∧ ρ1 = ρ) ⟨rfl, rfl⟩ σ F H st _ fun _ vs F1 H1 _ q1 p1 s1 st1 => by
    obtain ⟨rfl, rfl⟩ := q1
    obtain ⟨v, rfl, hv⟩ := ty1 p1
    cases rp_int hv
    exact ⟨n, rfl, h1, h2, kk _ F1 H1 s1 st1 it_range⟩
theorem src_range2 (h : Ev C a ρ (dat C.K (.int m))) (hb : Ev C b ρ (dat C.K (.int n))) (h1 : -(2 ^ 62) ≤ m ∧ m < 2 ^ 62 ∧ -(2 ^ 62) ≤ n ∧ n < 2 ^ 62) (he : starEach [a, b] C.X.env = (false, eval a C.X.env) :: starEach [b] C.X.env := by rfl) (he2 : starEach [b] C.X.env = (false, eval b C.X.env) :: starEach [] C.X.env := by rfl) :
    Src C (iRng2 (AD C.X [a, b])) ρ ((List.range (n - m).toNat).map fun j : Nat => .int (m + (j : Int))) := fun σ F H st R kk =>
  (av_cons h (av_cons hb av_nil he2) he) (fun Ts ρ1 => Ts = [dat C.K (.int m), dat C.K (.int n)] ∧ ρ1 = ρ) ⟨rfl, rfl⟩ σ F H st _ fun _ vs F1 H1 _ q1 p1 s1 st1 => by
    obtain ⟨rfl, rfl⟩ := q1
    obtain ⟨v, w, rfl, hv, hw⟩ := ty2 p1
    cases rp_int hv
    cases rp_int hw
    exact ⟨m, n, rfl, h1, kk _ F1 H1 s1 st1 it_range⟩

/-! ### targets -/
abbrev Eff := PyData → List Sv → Option (List Sv)
theorem wipe_get {σ : L2.St} {i : Nat} : ∀ {vs : List Nat}, (wipe σ vs)[i]? = if i ∈ vs then σ[i]?.map fun _ => none else σ[i]?
  | [] => by simp [wipe]
  | v :: vs => by
    have ih := wipe_get (σ := σ) (i := i) (vs := vs)
    show ((wipe σ vs).set v none)[i]? = _
    by_cases h : i = v
    · subst h
      rw [if_pos (by simp)]
      by_cases hl : i < σ.length
      · rw [List.getElem?_set_self (by rw [wipe_length]; exact hl), List.getElem?_eq_getElem hl]; rfl
      · rw [List.getElem?_eq_none (by rw [List.length_set, wipe_length]; omega), List.getElem?_eq_none (by omega)]; rfl
    · rw [List.getElem?_set_ne (Ne.symm h), ih]
      simp [h]
/-- slots outside js are as they were -/
def OffOnly (js : List Nat) (σ σ' : L2.St) : Prop := σ'.length = σ.length ∧ ∀ i : Nat, i ∉ js → σ'[i]? = σ[i]?
theorem map_none_eq {α β : Type} {l l' : List α} (h : l'.length = l.length) (i : Nat) : (l'[i]?.map fun _ => (none : Option β)) = l[i]?.map fun _ => none := by
  by_cases hl : i < l.length
  · rw [List.getElem?_eq_getElem hl, List.getElem?_eq_getElem (show i < l'.length by omega)]; rfl
  · rw [List.getElem?_eq_none (show l.length ≤ i by omega), List.getElem?_eq_none (show l'.length ≤ i by omega)]
theorem OffOnly.wipe {js vs : List Nat} {σ σ' : L2.St} (h : OffOnly js σ σ') (hj : ∀ j ∈ js, j ∈ vs) : L2.wipe σ' vs = L2.wipe σ vs := by
  refine List.ext_getElem? fun i => ?_
  rw [wipe_get, wipe_get]
  by_cases hi : i ∈ vs
  · rw [if_pos hi, if_pos hi]
    exact map_none_eq h.1 i
  · rw [if_neg hi, if_neg hi, h.2 i fun z => hi (hj i z)]
theorem wipe_wipe {vs : List Nat} {σ : L2.St} : L2.wipe (L2.wipe σ vs) vs = L2.wipe σ vs := by
  refine List.ext_getElem? fun i => ?_
  rw [wipe_get]
  by_cases hi : i ∈ vs
  · rw [if_pos hi, wipe_get, if_pos hi]
    cases σ[i]? <;> rfl
  · rw [if_neg hi, wipe_get, if_neg hi]
theorem offOnly_set {j : Nat} {js : List Nat} {σ : L2.St} {o : Option V} (h : j ∈ js) : OffOnly js σ (σ.set j o) := ⟨List.length_set, fun i hi => List.getElem?_set_ne fun z => hi (by rw [← z]; exact h)⟩
theorem OffOnly.trans {js : List Nat} {σ σ1 σ2 : L2.St} (h : OffOnly js σ σ1) (h' : OffOnly js σ1 σ2) : OffOnly js σ σ2 := ⟨h'.1.trans h.1, fun i hi => (h'.2 i hi).trans (h.2 i hi)⟩
def EffOff (js : List Nat) (eff : Eff) : Prop := ∀ d ρ ρ2, eff d ρ = some ρ2 → ∀ i : Nat, i ∉ js → ρ2[i]? = ρ[i]?
def TgOk (K : PySem.W.Frag) (g : TG) (js : List Nat) (eff : Eff) : Prop := EffOff js eff ∧ ∀ d ρ ρ' x σ F0 H0 F H (Qg : L2.St → Hp → Prop), eff d ρ = some ρ' → Rp K F x d → Stt K F0 H0 σ F H ρ → (∀ σ', OffOnly js σ σ' → Stt K F0 H0 σ' F H ρ' → Qg σ' H) → g x σ H Qg
def effName (K : PySem.W.Frag) (j : Nat) : Eff := fun d ρ => some (ρ.set j (.fz (dat K d)))
theorem off_name {K : PySem.W.Frag} {j : Nat} : EffOff [j] (effName K j) := fun d ρ ρ2 e i hi => by
  cases e
  exact List.getElem?_set_ne fun z => hi (by simp [z])
theorem tg_name {K : PySem.W.Frag} {j : Nat} : TgOk K (gName j) [j] (effName K j) := ⟨off_name, fun d ρ ρ' x σ F0 H0 F H Qg e hx st k => by
  cases e
  exact k _ (offOnly_set (by simp)) (st.set (T := dat K d) hx)⟩
def effTup2 (K : PySem.W.Frag) (j1 j2 : Nat) : Eff := fun d ρ => match d with
  | .tuple [d1, d2] => some ((ρ.set j1 (.fz (dat K d1))).set j2 (.fz (dat K d2)))
  | _ => none
theorem off_tup2 {K : PySem.W.Frag} {j1 j2 : Nat} : EffOff [j1, j2] (effTup2 K j1 j2) := fun d ρ ρ2 e i hi => by
  unfold effTup2 at e
  simp only [List.mem_cons, List.not_mem_nil, or_false, not_or] at hi
  split at e
  · cases e
    rw [List.getElem?_set_ne (Ne.symm hi.2), List.getElem?_set_ne (Ne.symm hi.1)]
  · cases e
theorem tg_tup2 {K : PySem.W.Frag} {j1 j2 : Nat} : TgOk K (gTup K 2 (gCons (gName j1) (gCons (gName j2) gNil))) [j1, j2] (effTup2 K j1 j2) := ⟨off_tup2, fun d ρ ρ' x σ F0 H0 F H Qg e hx st k => by
  unfold effTup2 at e
  split at e
  · rename_i d1 d2
    cases e
    cases hx with
    | tup q1 q2 =>
      cases q2 with
      | cons r1 q2 =>
        cases q2 with
        | cons r2 q2 =>
          cases q2
          exact ⟨_, _, rfl, same_sqT st.sub q1, rfl, _, _, rfl, _, _, rfl, rfl, k _ ((offOnly_set (by simp)).trans (offOnly_set (by simp))) ((st.set (T := dat K d1) r1).set (T := dat K d2) r2)⟩
  · cases e⟩
def effTup3 (K : PySem.W.Frag) (j1 j2 j3 : Nat) : Eff := fun d ρ => match d with
  | .tuple [d1, d2, d3] => some (((ρ.set j1 (.fz (dat K d1))).set j2 (.fz (dat K d2))).set j3 (.fz (dat K d3)))
  | _ => none
theorem off_tup3 {K : PySem.W.Frag} {j1 j2 j3 : Nat} : EffOff [j1, j2, j3] (effTup3 K j1 j2 j3) := fun d ρ ρ2 e i hi => by
  unfold effTup3 at e
  simp only [List.mem_cons, List.not_mem_nil, or_false, not_or] at hi
  split at e
  · cases e
    rw [List.getElem?_set_ne (Ne.symm hi.2.2), List.getElem?_set_ne (Ne.symm hi.2.1), List.getElem?_set_ne (Ne.symm hi.1)]
  · cases e
theorem tg_tup3 {K : PySem.W.Frag} {j1 j2 j3 : Nat} : TgOk K (gTup K 3 (gCons (gName j1) (gCons (gName j2) (gCons (gName j3) gNil)))) [j1, j2, j3] (effTup3 K j1 j2 j3) := ⟨off_tup3, fun d ρ ρ' x σ F0 H0 F H Qg e hx st k => by
  unfold effTup3 at e
  split at e
  · rename_i d1 d2 d3
    cases e
    cases hx with
    | tup q1 q2 =>
      cases q2 with
      | cons r1 q2 =>
        cases q2 with
        | cons r2 q2 =>
          cases q2 with
          | cons r3 q2 =>
            cases q2
            exact ⟨_, _, rfl, same_sqT st.sub q1, rfl, _, _, rfl, _, _, rfl, _, _, rfl, rfl, k _ (((offOnly_set (by simp)).trans (offOnly_set (by simp))).trans (offOnly_set (by simp))) (((st.set (T := dat K d1) r1).set (T := dat K d2) r2).set (T := dat K d3) r3)⟩
  · cases e⟩
end
end Lk

namespace Lk
open PySem PySem.Spec PyProof.Rows L2

/-! ### comprehensions -/
def wipeR (ρ : List Sv) : List Nat → List Sv
  | [] => ρ
  | v :: vs => (wipeR ρ vs).set v .un
theorem Stt.setUn {K : PySem.W.Frag} {F0 H0 F H : Hp} {σ : L2.St} {ρ : List Sv} (h : Stt K F0 H0 σ F H ρ) (i : Nat) : Stt K F0 H0 (σ.set i none) F H (ρ.set i .un) := by
  refine ⟨h.g, by rw [List.length_set, List.length_set]; exact h.len, fun j s e => ?_, fun j k ds es l hjk e1 e2 e3 e4 => ?_⟩
  · by_cases hj : j = i
    · subst hj
      have hl : j < ρ.length := by
        have := (List.getElem?_eq_some_iff.mp e).1
        rw [List.length_set] at this; exact this
      rw [List.getElem?_set_self hl] at e
      cases e
      exact ⟨none, by rw [List.getElem?_set_self (by rw [h.len]; exact hl)], trivial⟩
    · rw [List.getElem?_set_ne (Ne.symm hj)] at e ⊢
      exact h.sl j s e
  · have hj : j ≠ i := fun z => by
      subst z
      have hl : j < ρ.length := by
        have := (List.getElem?_eq_some_iff.mp e1).1
        rw [List.length_set] at this; exact this
      rw [List.getElem?_set_self hl] at e1; cases e1
    have hk : k ≠ i := fun z => by
      subst z
      have hl : k < ρ.length := by
        have := (List.getElem?_eq_some_iff.mp e2).1
        rw [List.length_set] at this; exact this
      rw [List.getElem?_set_self hl] at e2; cases e2
    rw [List.getElem?_set_ne (Ne.symm hj)] at e1 e3
    rw [List.getElem?_set_ne (Ne.symm hk)] at e2 e4
    exact h.ne j k ds es l hjk e1 e2 e3 e4
theorem Stt.wipe {K : PySem.W.Frag} {F0 H0 F H : Hp} {σ : L2.St} {ρ : List Sv} (h : Stt K F0 H0 σ F H ρ) : ∀ vs : List Nat, Stt K F0 H0 (L2.wipe σ vs) F H (wipeR ρ vs)
  | [] => h
  | v :: vs => (h.wipe vs).setUn v
def OwnedAt (σ : L2.St) (ρ : List Sv) (a : Addr) : Prop := ∃ (i : Nat) (ds : List PyData), ρ[i]? = some (.ow ds) ∧ σ[i]? = some (some (.ref a))
open Classical in
/-- the heap without the lists that slots own -/
noncomputable def bare (σ : L2.St) (ρ : List Sv) (H : Hp) : Hp := fun a => if OwnedAt σ ρ a then none else H a
theorem bare_ne {σ : L2.St} {ρ : List Sv} {H : Hp} {a : Addr} (h : ¬ OwnedAt σ ρ a) : bare σ ρ H a = H a := by unfold bare; rw [if_neg h]
theorem bare_own {σ : L2.St} {ρ : List Sv} {H : Hp} {a : Addr} (h : OwnedAt σ ρ a) : bare σ ρ H a = none := by unfold bare; rw [if_pos h]
theorem bare_same {σ : L2.St} {ρ : List Sv} {H : Hp} : Same (bare σ ρ H) H := fun a o e => by
  by_cases h : OwnedAt σ ρ a
  · rw [bare_own h] at e; cases e
  · rw [bare_ne h] at e; exact e
/-- the entry may be thought of as here -/
theorem Stt.here {K : PySem.W.Frag} {F0 H0 F H : Hp} {σ : L2.St} {ρ : List Sv} (h : Stt K F0 H0 σ F H ρ) : Stt K F (bare σ ρ H) σ F H ρ := by
  refine ⟨⟨Same.refl _, bare_same, h.sub, fun _ e _ => e⟩, h.len, fun i s e => ?_, h.ne⟩
  obtain ⟨o, e1, e2⟩ := h.sl i s e
  refine ⟨o, e1, ?_⟩
  cases s with
  | un => trivial
  | fz T => exact e2
  | ow ds =>
    obtain ⟨l, vs, rfl, h1, h2, h3, h4⟩ := e2
    exact ⟨l, vs, rfl, h1, bare_own ⟨i, ds, e, e1⟩, h3, h4⟩
/-- .. and back: all that was done from here was done from the entry -/
theorem Stt.back {K : PySem.W.Frag} {F0 H0 F H F' H' : Hp} {σ σ' : L2.St} {ρ ρ' : List Sv} (h : Stt K F0 H0 σ F H ρ) (h' : Stt K F (bare σ ρ H) σ' F' H' ρ') (hn : ∀ (i : Nat) ds l, ρ'[i]? = some (.ow ds) → σ'[i]? = some (some (.ref l)) → H0 l = none) : Stt K F0 H0 σ' F' H' ρ' := by
  have nb : ∀ a, H0 a ≠ none → ¬ OwnedAt σ ρ a := fun a ha ⟨i, ds, e1, e2⟩ => by
    obtain ⟨o, q1, l, vs, q2, _, q3, _⟩ := h.sl i _ e1
    rw [e2] at q1; cases q1; cases q2
    exact ha q3
  refine ⟨⟨h.g.sF.trans h'.g.sF, fun a o e => ?_, h'.g.sub, fun a e1 e2 => ?_⟩, h'.len, fun i s e => ?_, h'.ne⟩
  · refine h'.g.sH a o ?_
    rw [bare_ne (nb a (by rw [e]; exact fun z => nomatch z))]
    exact h.g.sH _ _ e
  · refine h'.g.fr a (h.g.fr a e1 e2) ?_
    rw [bare_ne (nb a e2)]
    exact some_same h.g.sH e2
  · obtain ⟨o, e1, e2⟩ := h'.sl i s e
    refine ⟨o, e1, ?_⟩
    cases s with
    | un => trivial
    | fz T => exact e2
    | ow ds =>
      obtain ⟨l, vs, rfl, h1, h2, h3, h4⟩ := e2
      exact ⟨l, vs, rfl, h1, hn i ds l e e1, h3, h4⟩
theorem ow_wipe {ρ : List Sv} {i : Nat} {ds : List PyData} {σ : L2.St} : ∀ {vs : List Nat}, (wipeR ρ vs)[i]? = some (.ow ds) → ρ[i]? = some (.ow ds) ∧ (wipe σ vs)[i]? = σ[i]?
  | [], h => ⟨h, rfl⟩
  | v :: vs, h => by
    have h' : ((wipeR ρ vs).set v .un)[i]? = some (.ow ds) := h
    by_cases hv : i = v
    · subst hv
      have hl : i < (wipeR ρ vs).length := by
        have := (List.getElem?_eq_some_iff.mp h').1
        rw [List.length_set] at this; exact this
      rw [List.getElem?_set_self hl] at h'; cases h'
    · rw [List.getElem?_set_ne (Ne.symm hv)] at h'
      obtain ⟨e1, e2⟩ := ow_wipe (σ := σ) h'
      refine ⟨e1, ?_⟩
      show ((wipe σ vs).set v none)[i]? = _
      rw [List.getElem?_set_ne (Ne.symm hv)]
      exact e2

/-- a comprehension's block -/
abbrev BlkX (X : Cx) (scope : Scope) : Cx → Prop := fun B => ∃ (s : Shared) (H : Hp) (Cc : Addr) (cl : List (Str × Addr)) (fp : List Addr), B = X.blk s H scope (compEnvC scope cl Cc X.env) fp
def EB (X : Cx) (scope : Scope) (e : Expr) : TE := fun σ H Q => ∀ B, BlkX X scope B → ED B e σ H Q
def TB (X : Cx) (scope : Scope) (e : Expr) : TT := fun σ H Q => ∀ B, BlkX X scope B → TD B e σ H Q

theorem wipeR_get {ρ : List Sv} {i : Nat} : ∀ {vs : List Nat}, i ∉ vs → (wipeR ρ vs)[i]? = ρ[i]?
  | [], _ => rfl
  | v :: vs, h => by
    simp only [List.mem_cons, not_or] at h
    show ((wipeR ρ vs).set v .un)[i]? = _
    rw [List.getElem?_set_ne (Ne.symm h.1)]
    exact wipeR_get h.2
section
variable {C : Kx} {ρ : List Sv} {elt tg iter c : Expr} {ifs : List Expr} {scope : Scope} {own : List (Str × Nat)} {pos : Pos} {wi : TI} {g : TG} {js vs : List Nat} {eff : Eff} {its : List PyData} {tt : TT} {te : TE}
/-- no slot of these is a list of one's own -/
def NoOw (ρ : List Sv) (vs : List Nat) : Prop := ∀ j ∈ vs, ∀ ds, ρ[j]? ≠ some (.ow ds)
theorem lc_read {Q : List PyData → List Sv → Prop} {Qv : VK} {σ : L2.St} {F H : Hp} (hsrc : Src C wi ρ its) (htg : TgOk C.K g js eff) (hj : ∀ j ∈ js, j ∈ vs) (hw : NoOw ρ vs) (J : Nat → List PyData → Prop) (j0 : J 0 []) (hlen : ∀ i acc, J i acc → acc.length < sizeLine)
    (hstep : ∀ (i : Nat) d acc, its[i]? = some d → J i acc → ∃ ρ2, eff d (wipeR ρ vs) = some ρ2 ∧ ∀ σ2 F0 H0 F2 H2, Stt C.K F0 H0 σ2 F2 H2 ρ2 → ∀ (N0 : Hp → Prop) (N1 : V → Hp → Prop),
      (∀ F' H', Same F2 F' → Stt C.K F0 H0 σ2 F' H' ρ2 → J (i + 1) acc → N0 H') → (∀ d' y F' H', Same F2 F' → Stt C.K F0 H0 σ2 F' H' ρ2 → Rp C.K F' y d' → J (i + 1) (acc ++ [d']) → N1 y H') →
      tt σ2 H2 fun b H3 => if b = true then te σ2 H3 N1 else N0 H3)
    (hd : ∀ acc, J its.length acc → Q acc ρ) (st : C.S σ F H ρ)
    (kk : ∀ ds l vs F' H' ρ', Q ds ρ' → H' l = none → RpAll C.K F' vs ds → Same F F' → C.S σ F' H' ρ' → Qv (.ref l) (upd H' l (.lst vs))) : tLc wi g tt te vs σ H Qv := by
  refine hsrc σ F H st _ fun I F1 H1 s1 st1 ok D hD => ?_
  have nD : ¬ OwnedAt σ ρ D := fun ⟨i, ds, e1, e2⟩ => by
    obtain ⟨o, q1, l, vs', q2, _, _, q3, _⟩ := st1.sl i _ e1
    rw [e2] at q1; cases q1; cases q2
    rw [hD] at q3; cases q3
  have nD0 : C.H0 D = none := st1.g.sH.free hD
  let Pv : Nat → Hp → Prop := fun i H => ∃ (F2 : Hp) (acc : List PyData) (ws : List V), Same F1 F2 ∧ F2 D = none ∧ H D = some (.lst ws) ∧ RpAll C.K F2 ws acc ∧ J i acc ∧ C.S σ F2 H ρ
  refine ⟨fun i m H => m = its.length - i ∧ i ≤ its.length ∧ Pv i H, ⟨its.length, rfl, Nat.zero_le _, F1, [], [], Same.refl _, st1.sub.free hD, upd_same, .nil, j0, st1.grow (Grow.own st1.sub hD)⟩, ?_⟩
  rintro i m H ⟨rfl, hi, F2, acc, ws, s2, nF, hH, hr, hJ, st2⟩
  by_cases hlt : i < its.length
  · have hit : its[i]? = some its[i] := List.getElem?_eq_getElem hlt
    obtain ⟨g1, g2⟩ := ok.go i _ F2 H hit s2 st2.sub
    refine .inr ⟨g1, Pv (i + 1), fun H' p' => ⟨its.length - (i + 1), by omega, rfl, hlt, p'⟩, fun x H' hy => ?_⟩
    obtain ⟨F3, gr3, rx⟩ := g2 x H' hy
    have st3 : C.S σ F3 H' ρ := st2.grow gr3
    have nF3 : F3 D = none := gr3.fr D nF (by rw [hH]; exact fun z => nomatch z)
    have hH3 : H' D = some (.lst ws) := gr3.sH _ _ hH
    obtain ⟨ρ2, he, hst⟩ := hstep i _ acc hit hJ
    refine htg.2 _ _ ρ2 x _ _ _ F3 H' _ he rx (st3.here.wipe vs) fun σ2 off stB => ?_
    refine ⟨?_, ?_⟩
    · rw [off.wipe hj, wipe_wipe]
    · have hb : bare σ ρ H' D = some (.lst ws) := by rw [bare_ne nD]; exact hH3
      have fin : ∀ {F' H''}, Stt C.K F3 (bare σ ρ H') σ2 F' H'' ρ2 → Same F1 F' ∧ F' D = none ∧ H'' D = some (.lst ws) ∧ RpAll C.K F' ws acc := fun {F' H''} gg =>
        ⟨(s2.trans gr3.sF).trans gg.g.sF, gg.g.fr D nF3 (by rw [hb]; exact fun z => nomatch z), gg.g.sH _ _ hb, RpAll.mono (gr3.sF.trans gg.g.sF) _ _ hr⟩
      have stt : ∀ {F' H''}, Stt C.K F3 (bare σ ρ H') σ2 F' H'' ρ2 → C.S σ F' H'' ρ := fun {F' H''} gg => by
        have hown : ∀ (j : Nat) ds l, ρ[j]? = some (.ow ds) → σ[j]? = some (some (.ref l)) → ∃ vs', F' l = none ∧ H'' l = some (.lst vs') ∧ RpAll C.K F' vs' ds := fun j ds l e1 e2 => by
          have hjv : j ∉ vs := fun z => hw j z ds e1
          have hjj : j ∉ js := fun z => hjv (hj j z)
          have e3 : ρ2[j]? = some (.ow ds) := by rw [htg.1 _ _ _ he j hjj, wipeR_get hjv]; exact e1
          obtain ⟨o, q1, l', vs', q2, h1, _, h3, h4⟩ := gg.sl j _ e3
          have e4 : σ2[j]? = some (some (.ref l)) := by rw [off.2 j hjj, wipe_get, if_neg hjv]; exact e2
          rw [e4] at q1; cases q1; cases q2
          exact ⟨vs', h1, h3, h4⟩
        have hsame : ∀ a o, H' a = some o → ¬ OwnedAt σ ρ a → H'' a = some o := fun a o e na => gg.g.sH a o (by rw [bare_ne na]; exact e)
        have nb : ∀ a, C.H0 a ≠ none → ¬ OwnedAt σ ρ a := fun a ha ⟨j, ds, e1, e2⟩ => by
          obtain ⟨o, q1, l, vs', q2, _, q3, _⟩ := st3.sl j _ e1
          rw [e2] at q1; cases q1; cases q2
          exact ha q3
        refine ⟨⟨st3.g.sF.trans gg.g.sF, fun a o e => hsame a o (st3.g.sH _ _ e) (nb a (by rw [e]; exact fun z => nomatch z)), gg.g.sub, fun a e1 e2 => gg.g.fr a (st3.g.fr a e1 e2) (by rw [bare_ne (nb a e2)]; exact some_same st3.g.sH e2)⟩, st3.len, fun j s e => ?_, st3.ne⟩
        obtain ⟨o, q1, q2⟩ := st3.sl j s e
        refine ⟨o, q1, ?_⟩
        cases s with
        | un => trivial
        | fz T => obtain ⟨v, z1, z2⟩ := q2; exact ⟨v, z1, T.mono gg.g.sF z2⟩
        | ow ds =>
          obtain ⟨l, vs', rfl, h1, h2, h3, h4⟩ := q2
          obtain ⟨vs2, z1, z2, z3⟩ := hown j ds l e q1
          exact ⟨l, vs2, rfl, z1, h2, z2, z3⟩
      refine hst σ2 _ _ F3 H' stB _ _ (fun F' H'' _ gg hJ' => ?_) (fun d' y F' H'' _ gg ry hJ' => ?_)
      · obtain ⟨f1, f2, f3, f4⟩ := fin gg
        exact ⟨F', acc, ws, f1, f2, f3, f4, hJ', stt gg⟩
      · obtain ⟨f1, f2, f3, f4⟩ := fin gg
        have hl : ws.length < sizeLine := by rw [f4.length]; exact hlen i acc hJ
        refine ⟨ws, f3, hl, F', acc ++ [d'], ws ++ [y], f1, f2, upd_same, f4.append (.cons ry .nil), hJ', ?_⟩
        have stE := stt gg
        refine ⟨⟨stE.g.sF, fun a o q => ?_, fun a o q => ?_, stE.g.fr⟩, stE.len, fun j s q => ?_, stE.ne⟩
        · rw [upd_ne (ne_of_none q nD0)]; exact stE.g.sH _ _ q
        · rw [upd_ne (ne_of_none q f2)]; exact stE.sub _ _ q
        · obtain ⟨o, q1, q2⟩ := stE.sl j s q
          refine ⟨o, q1, ?_⟩
          cases s with
          | un => trivial
          | fz T => exact q2
          | ow ds =>
            obtain ⟨l, vs', rfl, h1, h2, h3, h4⟩ := q2
            refine ⟨l, vs', rfl, h1, h2, ?_, h4⟩
            rw [upd_ne (fun z => nD ⟨j, ds, q, by rw [q1, z]⟩)]
            exact h3
  · have e : i = its.length := by omega
    subst e
    refine .inl ⟨ok.stop F2 H s2 st2.sub, ?_⟩
    let H' : Hp := fun a => if a = D then none else H a
    have e1 : upd H' D (.lst ws) = H := by
      funext a
      by_cases ha : a = D
      · subst ha; rw [upd_same, hH]
      · rw [upd_ne ha]; show (if a = D then none else H a) = H a; rw [if_neg ha]
    have e2 : H' D = none := by show (if D = D then none else H D) = none; rw [if_pos rfl]
    have e3 : ∀ {a}, a ≠ D → H' a = H a := fun {a} ha => by show (if a = D then none else H a) = H a; rw [if_neg ha]
    have stE : C.S σ F2 H' ρ := by
      refine ⟨⟨st2.g.sF, fun a o q => ?_, fun a o q => ?_, st2.g.fr⟩, st2.len, fun j s q => ?_, st2.ne⟩
      · rw [e3 (ne_of_none q nD0)]; exact st2.g.sH _ _ q
      · rw [e3 (ne_of_none q nF)]; exact st2.sub _ _ q
      · obtain ⟨o, q1, q2⟩ := st2.sl j s q
        refine ⟨o, q1, ?_⟩
        cases s with
        | un => trivial
        | fz T => exact q2
        | ow ds =>
          obtain ⟨l, vs', rfl, h1, h2, h3, h4⟩ := q2
          refine ⟨l, vs', rfl, h1, h2, ?_, h4⟩
          rw [e3 (fun z => nD ⟨j, ds, q, by rw [q1, z]⟩)]
          exact h3
    rw [← e1]
    exact kk acc D ws F2 H' ρ (hd acc hJ) e2 hr (s1.trans s2) stE

theorem blkX_mk {X : Cx} (s : Shared) (H : Hp) (Cc : Addr) (cl : List (Str × Addr)) (fp : List Addr) : BlkX X scope (X.blk s H scope (compEnvC scope cl Cc X.env) fp) := ⟨s, H, Cc, cl, fp, rfl⟩
theorem pe_b {X : Cx} {e : Expr} (s : Shared) (H : Hp) (Cc : Addr) (cl : List (Str × Addr)) (fp : List Addr) : PE (X.blk s H scope (compEnvC scope cl Cc X.env) fp) e (EB X scope e) := ⟨fun pins s' σ H' Q I h => h _ (blkX_mk s H Cc cl fp) pins s' I⟩
theorem pt_b {X : Cx} {e : Expr} (s : Shared) (H : Hp) (Cc : Addr) (cl : List (Str × Addr)) (fp : List Addr) : PT (X.blk s H scope (compEnvC scope cl Cc X.env) fp) e (TB X scope e) := ⟨fun pins s' σ H' Q I h => h _ (blkX_mk s H Cc cl fp) pins s' I⟩
/-- what a turn of a comprehension does; no test -/
def Turn0 (C : Kx) (scope : Scope) (elt : Expr) (ρ2 : List Sv) (J : PyData → Prop) : Prop := ∀ B : Kx, BlkX C.X scope B.X → Ew B elt ρ2 fun T ρ' => ρ' = ρ2 ∧ ∃ d', T = dat C.K d' ∧ J d'
/-- .. with a test -/
def Turn1 (C : Kx) (scope : Scope) (c elt : Expr) (ρ2 : List Sv) (J0 : Prop) (J : PyData → Prop) : Prop := ∀ B : Kx, BlkX C.X scope B.X → Tw B c ρ2 fun k ρ' => ρ' = ρ2 ∧ (k = false → J0) ∧ (k = true → ∀ B : Kx, BlkX C.X scope B.X → Ew B elt ρ2 fun T ρ' => ρ' = ρ2 ∧ ∃ d', T = dat C.K d' ∧ J d')
theorem blk_K {X B : Cx} (h : BlkX X scope B) : B.K = X.K := by obtain ⟨_, _, _, _, _, rfl⟩ := h; rfl
theorem lc_read0 {Q : List PyData → List Sv → Prop} {Qv : VK} {σ : L2.St} {F H : Hp} (hsrc : Src C wi ρ its) (htg : TgOk C.K g js eff) (hj : ∀ j ∈ js, j ∈ vs) (hw : NoOw ρ vs) (J : Nat → List PyData → Prop) (j0 : J 0 []) (hlen : ∀ i acc, J i acc → acc.length < sizeLine)
    (hstep : ∀ (i : Nat) d acc, its[i]? = some d → J i acc → ∃ ρ2, eff d (wipeR ρ vs) = some ρ2 ∧ Turn0 C scope elt ρ2 fun d' => J (i + 1) (acc ++ [d']))
    (hd : ∀ acc, J its.length acc → Q acc ρ) (st : C.S σ F H ρ)
    (kk : ∀ ds l vs F' H' ρ', Q ds ρ' → H' l = none → RpAll C.K F' vs ds → Same F F' → C.S σ F' H' ρ' → Qv (.ref l) (upd H' l (.lst vs))) : tLc wi g tYes (EB C.X scope elt) vs σ H Qv := by
  refine lc_read hsrc htg hj hw J j0 hlen (fun i d acc e hJ => ?_) hd st kk
  obtain ⟨ρ2, e2, ht⟩ := hstep i d acc e hJ
  refine ⟨ρ2, e2, fun σ2 F0 H0 F2 H2 st2 N0 N1 k0 k1 => ?_⟩
  show if true = true then EB C.X scope elt σ2 H2 N1 else N0 H2
  rw [if_pos rfl]
  intro B hB
  have hK := blk_K hB
  refine ht ⟨B, F0, H0⟩ hB σ2 F2 H2 (by show Stt B.K F0 H0 σ2 F2 H2 ρ2; rw [hK]; exact st2) _ fun T v F' H' ρ' q p s st' => ?_
  obtain ⟨rfl, d', rfl, hJ'⟩ := q
  exact k1 d' v F' H' s (by have z : Stt B.K F0 H0 σ2 F' H' _ := st'; rw [hK] at z; exact z) p hJ'
theorem lc_read1 {Q : List PyData → List Sv → Prop} {Qv : VK} {σ : L2.St} {F H : Hp} (hsrc : Src C wi ρ its) (htg : TgOk C.K g js eff) (hj : ∀ j ∈ js, j ∈ vs) (hw : NoOw ρ vs) (J : Nat → List PyData → Prop) (j0 : J 0 []) (hlen : ∀ i acc, J i acc → acc.length < sizeLine)
    (hstep : ∀ (i : Nat) d acc, its[i]? = some d → J i acc → ∃ ρ2, eff d (wipeR ρ vs) = some ρ2 ∧ Turn1 C scope c elt ρ2 (J (i + 1) acc) fun d' => J (i + 1) (acc ++ [d']))
    (hd : ∀ acc, J its.length acc → Q acc ρ) (st : C.S σ F H ρ)
    (kk : ∀ ds l vs F' H' ρ', Q ds ρ' → H' l = none → RpAll C.K F' vs ds → Same F F' → C.S σ F' H' ρ' → Qv (.ref l) (upd H' l (.lst vs))) : tLc wi g (TB C.X scope c) (EB C.X scope elt) vs σ H Qv := by
  refine lc_read hsrc htg hj hw J j0 hlen (fun i d acc e hJ => ?_) hd st kk
  obtain ⟨ρ2, e2, ht⟩ := hstep i d acc e hJ
  refine ⟨ρ2, e2, fun σ2 F0 H0 F2 H2 st2 N0 N1 k0 k1 => ?_⟩
  intro B hB
  have hK := blk_K hB
  refine ht ⟨B, F0, H0⟩ hB σ2 F2 H2 (by show Stt B.K F0 H0 σ2 F2 H2 ρ2; rw [hK]; exact st2) _ fun k F' H' ρ' q s st' => ?_
  obtain ⟨rfl, q0, q1⟩ := q
  have st'' : Stt C.K F0 H0 σ2 F' H' ρ' := by have z : Stt B.K F0 H0 σ2 F' H' _ := st'; rw [hK] at z; exact z
  cases k with
  | false =>
    show N0 H'
    exact k0 F' H' s st'' (q0 rfl)
  | true =>
    show EB C.X scope elt σ2 H' N1
    intro B2 hB2
    have hK2 := blk_K hB2
    refine q1 rfl ⟨B2, F0, H0⟩ hB2 σ2 F' H' (by show Stt B2.K F0 H0 σ2 F' H' _; rw [hK2]; exact st'') _ fun T v F'' H'' ρ'' q p s2 st3 => ?_
    obtain ⟨rfl, d', rfl, hJ'⟩ := q
    exact k1 d' v F'' H'' (s.trans s2) (by have z : Stt B2.K F0 H0 σ2 F'' H'' _ := st3; rw [hK2] at z; exact z) p hJ'
end
end Lk

namespace Lk
open PySem PySem.Spec PyProof.Rows L2
section
variable {C : Kx} {ρ : List Sv} {elt tg iter c a b e : Expr} {ifs es : List Expr} {scope : Scope} {own : List (Str × Nat)} {pos p : Pos} {wi : TI} {g : TG} {js vs : List Nat} {eff : Eff} {its ds : List PyData} {tt : TT} {te : TE} {T T1 : Ty} {P : Po} {x : Str} {i : Nat} {st : Stmt} {ss rest : List Stmt}

/-! ### comprehensions as rules -/
/-- the target in the block -/
def TgB (C : Kx) (scope : Scope) (tg : Expr) (g : TG) : Prop := ∀ (s : Shared) (H : Hp) (Cc : Addr) (cl : List (Str × Addr)) (fp : List Addr), PG (C.X.blk s H scope (compEnvC scope cl Cc C.X.env) fp) tg g
theorem ow_lc0 {Q : List PyData → List Sv → Prop} (hc : C.X.calm = true) (hN : C.X.N.Nodup) (hi : PI C.X tg iter wi) (hsrc : Src C wi ρ its) (ok : BlkOk C.X.N C.X.env.scope scope own) (hg : TgB C scope tg g) (htg : TgOk C.K g js eff) (hj : ∀ j ∈ js, j ∈ own.map (·.2)) (hw : NoOw ρ (own.map (·.2)))
    (J : Nat → List PyData → Prop) (j0 : J 0 []) (hlen : ∀ i acc, J i acc → acc.length < sizeLine)
    (hstep : ∀ (i : Nat) d acc, its[i]? = some d → J i acc → ∃ ρ2, eff d (wipeR ρ (own.map (·.2))) = some ρ2 ∧ Turn0 C scope elt ρ2 fun d' => J (i + 1) (acc ++ [d']))
    (hd : ∀ acc, J its.length acc → Q acc ρ) (hs : ∀ x, foldedSetIterable iter C.X.env x = pure x := by intro _; rfl) : Ow C (.ListComp elt [⟨tg, iter, [], 0⟩] scope pos) ρ Q := fun σ F H st Qv kk =>
  ED.of (pe_lc hc hN hi ok hg (fun _ _ _ _ _ => pts_nil) (fun s H Cc cl fp => pe_b s H Cc cl fp) hs) (lc_read0 hsrc htg hj hw J j0 hlen hstep hd st kk)
theorem ow_lc1 {Q : List PyData → List Sv → Prop} (hc : C.X.calm = true) (hN : C.X.N.Nodup) (hi : PI C.X tg iter wi) (hsrc : Src C wi ρ its) (ok : BlkOk C.X.N C.X.env.scope scope own) (hg : TgB C scope tg g) (htg : TgOk C.K g js eff) (hj : ∀ j ∈ js, j ∈ own.map (·.2)) (hw : NoOw ρ (own.map (·.2)))
    (J : Nat → List PyData → Prop) (j0 : J 0 []) (hlen : ∀ i acc, J i acc → acc.length < sizeLine)
    (hstep : ∀ (i : Nat) d acc, its[i]? = some d → J i acc → ∃ ρ2, eff d (wipeR ρ (own.map (·.2))) = some ρ2 ∧ Turn1 C scope c elt ρ2 (J (i + 1) acc) fun d' => J (i + 1) (acc ++ [d']))
    (hd : ∀ acc, J its.length acc → Q acc ρ) (hs : ∀ x, foldedSetIterable iter C.X.env x = pure x := by intro _; rfl) : Ow C (.ListComp elt [⟨tg, iter, [c], 0⟩] scope pos) ρ Q := fun σ F H st Qv kk =>
  ED.of (pe_lc hc hN hi ok hg (fun s H Cc cl fp => pts_one (pt_b s H Cc cl fp)) (fun s H Cc cl fp => pe_b s H Cc cl fp) hs) (lc_read1 hsrc htg hj hw J j0 hlen hstep hd st kk)
/-- plain: each item gives f of it -/
theorem ov_lc0 (f : PyData → PyData) (hc : C.X.calm = true) (hN : C.X.N.Nodup) (hi : PI C.X tg iter wi) (hsrc : Src C wi ρ its) (ok : BlkOk C.X.N C.X.env.scope scope own) (hg : TgB C scope tg g) (htg : TgOk C.K g js eff) (hj : ∀ j ∈ js, j ∈ own.map (·.2)) (hw : NoOw ρ (own.map (·.2)))
    (hlen : its.length < sizeLine) (hstep : ∀ d ∈ its, ∃ ρ2, eff d (wipeR ρ (own.map (·.2))) = some ρ2 ∧ ∀ B : Kx, BlkX C.X scope B.X → Ev B elt ρ2 (dat C.K (f d))) (hs : ∀ x, foldedSetIterable iter C.X.env x = pure x := by intro _; rfl) : Ov C (.ListComp elt [⟨tg, iter, [], 0⟩] scope pos) ρ (its.map f) := fun Q q => by
  refine ow_lc0 hc hN hi hsrc ok hg htg hj hw (fun i acc => acc = (its.take i).map f) rfl (fun i acc h => ?_) (fun i d acc e h => ?_) (fun acc h => ?_) hs
  · subst h
    rw [List.length_map, List.length_take]
    omega
  · obtain ⟨ρ2, e2, h2⟩ := hstep d (List.mem_of_getElem? e)
    refine ⟨ρ2, e2, fun B hB => h2 B hB _ ⟨rfl, _, rfl, ?_⟩⟩
    subst h
    rw [List.take_add_one, e, List.map_append]
    rfl
  · subst h
    rw [List.take_length]
    exact q
/-- .. with a test -/
theorem ov_lc1 (f : PyData → PyData) (t : PyData → Bool) (hc : C.X.calm = true) (hN : C.X.N.Nodup) (hi : PI C.X tg iter wi) (hsrc : Src C wi ρ its) (ok : BlkOk C.X.N C.X.env.scope scope own) (hg : TgB C scope tg g) (htg : TgOk C.K g js eff) (hj : ∀ j ∈ js, j ∈ own.map (·.2)) (hw : NoOw ρ (own.map (·.2)))
    (hlen : its.length < sizeLine) (hstep : ∀ d ∈ its, ∃ ρ2, eff d (wipeR ρ (own.map (·.2))) = some ρ2 ∧ ∀ B : Kx, BlkX C.X scope B.X → Tv B c ρ2 (t d) ∧ (t d = true → Ev B elt ρ2 (dat C.K (f d)))) (hs : ∀ x, foldedSetIterable iter C.X.env x = pure x := by intro _; rfl) : Ov C (.ListComp elt [⟨tg, iter, [c], 0⟩] scope pos) ρ ((its.filter t).map f) := fun Q q => by
  refine ow_lc1 hc hN hi hsrc ok hg htg hj hw (fun i acc => acc = ((its.take i).filter t).map f) rfl (fun i acc h => ?_) (fun i d acc e h => ?_) (fun acc h => ?_) hs
  · subst h
    rw [List.length_map]
    have := List.length_filter_le t (its.take i)
    rw [List.length_take] at this
    omega
  · obtain ⟨ρ2, e2, h2⟩ := hstep d (List.mem_of_getElem? e)
    have key : ((its.take (i + 1)).filter t).map f = acc ++ (if t d = true then [f d] else []) := by
      subst h
      rw [List.take_add_one, e, List.filter_append, List.map_append]
      by_cases ht : t d = true
      · rw [if_pos ht]; simp [ht]
      · rw [if_neg ht]; simp [ht]
    refine ⟨ρ2, e2, fun B hB => (h2 B hB).1 _ ⟨rfl, fun z => ?_, fun z B2 hB2 => (h2 B2 hB2).2 z _ ⟨rfl, _, rfl, ?_⟩⟩⟩
    · rw [key, z]; simp
    · rw [key, z]; simp
  · subst h
    rw [List.take_length]
    exact q

/-! ### statements -/
theorem sw_cons (h : Sw1 C st ρ { P with nx := fun ρ' => Sw C rest ρ' P }) : Sw C (st :: rest) ρ P := fun σ F H s D m =>
  SD.of (pss_cons ps_d pss_d) (h σ F H s _ ⟨fun σ' F' H' ρ' p e s' => p σ' F' H' s' D (m.mono e), m.rt, m.ro, m.bk, m.ct⟩)
theorem sw_nil (h : P.nx ρ) : Sw C [] ρ P := fun σ F H s D m => SD.of pss_nil (m.nx σ F H ρ h (Same.refl _) s)
theorem sw_one (h : Sw1 C st ρ P) : Sw C [st] ρ P := sw_cons (fun σ F H s D m => h σ F H s D ⟨fun σ' F' H' ρ' p e s' => m.nx σ' F' H' ρ' (sw_nil p) e s', m.rt, m.ro, m.bk, m.ct⟩)
theorem Sw1.mono {P' : Po} (h : Sw1 C st ρ P) (hn : ∀ ρ', P.nx ρ' → P'.nx ρ') (hr : ∀ T, P.rt T → P'.rt T) (ho : ∀ T, P.ro T → P'.ro T) (hb : ∀ ρ', P.bk ρ' → P'.bk ρ') (hc : ∀ ρ', P.ct ρ' → P'.ct ρ') : Sw1 C st ρ P' := fun σ F H s D m =>
  h σ F H s D ⟨fun σ' F' H' ρ' p => m.nx σ' F' H' ρ' (hn _ p), fun T v F' H' p => m.rt T v F' H' (hr _ p), fun ds l vs F' H' p => m.ro ds l vs F' H' (ho _ p), fun σ' F' H' ρ' p => m.bk σ' F' H' ρ' (hb _ p), fun σ' F' H' ρ' p => m.ct σ' F' H' ρ' (hc _ p)⟩
theorem sw_ret (h : Ew C e ρ fun T _ => P.rt T) : Sw1 C (.Return (some e) pos) ρ P := fun σ F H s D m =>
  SD1.of (ps_ret pe_d) (h σ F H s _ fun T v F' H' ρ' p pv e s' => m.rt T v F' H' p pv s'.g)
theorem sw_retO (h : Ow C e ρ fun ds _ => P.ro ds) : Sw1 C (.Return (some e) pos) ρ P := fun σ F H s D m =>
  SD1.of (ps_ret pe_d) (h σ F H s _ fun ds l vs F' H' ρ' p n r e s' => m.ro ds l vs F' H' p n r s'.g)
theorem sw_expr (h : Ew C e ρ fun _ ρ' => P.nx ρ') (hs : swapsWith e none pos.line C.X.env = pure false := by rfl) : Sw1 C (.Expr e pos) ρ P := fun σ F H s D m =>
  SD1.of (ps_expr pe_d hs) (h σ F H s _ fun T v F' H' ρ' p pv e s' => m.nx σ F' H' ρ' p e s')
theorem sw_doc {z : Str} {j} {pos' : Pos} (h : P.nx ρ) : Sw1 C (.Expr (.Constant (.str z) j pos) pos') ρ P := fun σ F H s D m => SD1.of ps_doc (m.nx σ F H ρ h (Same.refl _) s)
theorem sw_if {A B : List Stmt} (h : Tw C c ρ fun k ρ' => (k = true → Sw C A ρ' P) ∧ (k = false → Sw C B ρ' P)) : Sw1 C (.If c A B pos) ρ P := fun σ F H s D m =>
  SD1.of (ps_if pt_d pss_d pss_d) (h σ F H s _ fun k F' H' ρ' p e s' => by
    cases k with
    | true =>
      show SD C.X A D σ H'
      exact p.1 rfl σ F' H' s' D (m.mono e)
    | false =>
      show SD C.X B D σ H'
      exact p.2 rfl σ F' H' s' D (m.mono e))
theorem sw_set {pos' : Pos} (i : Nat) (hN : C.X.N.Nodup) (hi : C.X.N[i]? = some x) (hx : Loc C.X.env.scope x) (h : Ew C e ρ fun T ρ' => P.nx (ρ'.set i (.fz T))) (hs : swapsWith e (some (.Name x pos')) pos.line C.X.env = pure false := by rfl)
    (hf : C.X.fn x = true ∨ C.X.env.scope.names.lookup x = some .local := by first | exact .inl rfl | exact .inr rfl | assumption) : Sw1 C (.Assign [.Name x pos'] e pos) ρ P := fun σ F H s D m =>
  SD1.of (ps_set hN hi hx pe_d hs hf) (h σ F H s _ fun T v F' H' ρ' p pv e s' => m.nx _ F' H' _ p e (s'.set pv))
/-- x = a new list, of one's own -/
theorem sw_setO {pos' : Pos} (i : Nat) (hN : C.X.N.Nodup) (hi : C.X.N[i]? = some x) (hx : Loc C.X.env.scope x) (h : Ow C e ρ fun ds ρ' => P.nx (ρ'.set i (.ow ds))) (hs : swapsWith e (some (.Name x pos')) pos.line C.X.env = pure false := by rfl)
    (hf : C.X.fn x = true ∨ C.X.env.scope.names.lookup x = some .local := by first | exact .inl rfl | exact .inr rfl | assumption) : Sw1 C (.Assign [.Name x pos'] e pos) ρ P := fun σ F H s D m =>
  SD1.of (ps_set hN hi hx pe_d hs hf) (h σ F H s _ fun ds l vs F' H' ρ' p n r e s' => m.nx _ F' _ _ p e (s'.setOwn n r))
/-- x.append(e), x a list of one's own -/
theorem sw_app {pos' p1 p2 : Pos} (i : Nat) (hi : ρ[i]? = some (.ow ds)) (hN : C.X.N[i]? = some x) (hv : Vis C.X.env.scope x) (hl : ds.length < sizeLine) (h : Ew C e ρ fun T ρ' => ∃ d, T = dat C.K d ∧ ρ' = ρ ∧ P.nx (ρ.set i (.ow (ds ++ [d]))))
    (hp : ∀ {to : TE} {t : TA}, PE C.X (.Name x p1) to → PA C.X [e] t → PE C.X (.Call (.Attribute (.Name x p1) "append" p2) [e] [] pos') (tBM C.X.K "list" rAppend to t)) (hd : (x == ("__debug__" : Str)) = false := by decide) (hcd : (x == ("__classdict__" : Str)) = false := by decide)
    (he : starEach [e] C.X.env = (false, eval e C.X.env) :: starEach [] C.X.env := by rfl) (hs : swapsWith (.Call (.Attribute (.Name x p1) "append" p2) [e] [] pos') none pos.line C.X.env = pure false := by rfl) :
    Sw1 C (.Expr (.Call (.Attribute (.Name x p1) "append" p2) [e] [] pos') pos) ρ P := fun σ F H s D m => by
  obtain ⟨o, q1, l, vs, q2, n1, n2, q3, q4⟩ := s.sl i _ hi
  subst q2
  refine SD1.of (ps_expr (hp (pe_var hN hv hd hcd) (pa_cons pe_d pa_nil he)) hs) ?_
  refine ⟨_, q1, .inl ⟨rfl, vs, .inl (.inl q3)⟩, ?_⟩
  refine h σ F H s _ fun T v F' H' ρ' p pv e s' => ?_
  obtain ⟨d, rfl, rfl, p⟩ := p
  obtain ⟨o, z1, l', vs', z2, m1, m2, z3, z4⟩ := s'.sl i _ hi
  rw [q1] at z1; cases z1; cases z2
  refine ⟨l, vs', v, rfl, rfl, z3, by rw [z4.length]; exact hl, ?_⟩
  exact m.nx σ F' _ _ p e (s'.mut hi q1 (z4.append (.cons pv .nil)))
theorem sw_for {body : List Stmt} (hp : PassesOwn (model C.X.prog C.X.w) C.X.A C.X.env C.X.xe) (hc : C.X.calm = true) (hi : PI C.X tg iter wi) (hsrc : Src C wi ρ its) (hg : PG C.X tg g) (htg : TgOk C.K g js eff)
    (I : Nat → List Sv → Prop) (h0 : I 0 ρ) (hs : ∀ (i : Nat) d ρ1, its[i]? = some d → I i ρ1 → ∃ ρ2, eff d ρ1 = some ρ2 ∧ Sw C body ρ2 { nx := I (i + 1), ct := I (i + 1), bk := P.nx, rt := P.rt, ro := P.ro })
    (hd : ∀ ρ1, I its.length ρ1 → P.nx ρ1) (hf : ∀ x, foldedSetIterable iter C.X.env x = pure x := by intro _; rfl) : Sw1 C (.For tg iter body [] pos) ρ P := fun σ F H s D m => by
  refine SD1.of (ps_for hp hc hi hg pss_d hf) (hsrc σ F H s _ fun J F1 H1 s1 st1 ok => ?_)
  refine ⟨fun i m σ H => m = its.length - i ∧ i ≤ its.length ∧ ∃ F2 ρ2, Same F1 F2 ∧ C.S σ F2 H ρ2 ∧ I i ρ2, ⟨its.length, rfl, Nat.zero_le _, F1, ρ, Same.refl _, st1, h0⟩, ?_⟩
  rintro i k σ2 H2 ⟨rfl, hle, F2, ρ2, s2, st2, hI⟩
  by_cases hlt : i < its.length
  · have hit : its[i]? = some its[i] := List.getElem?_eq_getElem hlt
    obtain ⟨g1, g2⟩ := ok.go i _ F2 H2 hit s2 st2.sub
    refine .inr ⟨g1, fun σ' H' => ∃ F3 ρ3, Same F1 F3 ∧ C.S σ' F3 H' ρ3 ∧ I (i + 1) ρ3, fun σ' H' ⟨F3, ρ3, s3, st3, hI3⟩ => ⟨its.length - (i + 1), by omega, rfl, hlt, F3, ρ3, s3, st3, hI3⟩, fun x H' hy => ?_⟩
    obtain ⟨F3, gr3, rx⟩ := g2 x H' hy
    obtain ⟨ρ3, he, hb⟩ := hs i _ ρ2 hit hI
    refine htg.2 _ _ ρ3 x _ _ _ F3 H' _ he rx (st2.grow gr3) fun σ3 off st3 => ?_
    refine hb σ3 F3 H' st3 _ ⟨fun σ' F' H'' ρ' p e s' => ⟨F', ρ', (s2.trans gr3.sF).trans e, s', p⟩, m.rt, m.ro, fun σ' F' H'' ρ' p e s' => m.nx σ' F' H'' ρ' p ((s1.trans s2).trans (gr3.sF.trans e)) s', fun σ' F' H'' ρ' p e s' => ⟨F', ρ', (s2.trans gr3.sF).trans e, s', p⟩⟩
  · have e : i = its.length := by omega
    subst e
    exact .inl ⟨ok.stop F2 H2 s2 st2.sub, m.nx σ2 F2 H2 ρ2 (hd ρ2 hI) (s1.trans s2) st2⟩

/-! ### functions -/
def Fsp (R : List Ty → (Ty → Prop) → Prop) : Sp := fun vs H Q _ => ∃ F Ts post, Same F H ∧ TyAll F vs Ts ∧ R Ts post ∧ ∀ T v F' H', post T → T.p v F' → Grow F H F' H' → Q v H'
/-- slots at a def's entry -/
def ent (N : List Str) (Ts : List Ty) : List Sv := Ts.map .fz ++ List.replicate (N.length - Ts.length) .un
theorem TyAll.length {F : Hp} : ∀ {vs : List V} {Ts : List Ty}, TyAll F vs Ts → vs.length = Ts.length
  | _, _, .nil => rfl
  | _, _, .cons _ t => by rw [List.length_cons, List.length_cons, TyAll.length t]
theorem TyAll.get {F : Hp} : ∀ {vs : List V} {Ts : List Ty} {i : Nat} {T : Ty}, TyAll F vs Ts → Ts[i]? = some T → ∃ v, vs[i]? = some v ∧ T.p v F
  | _, _, _, _, .nil, e => by simp at e
  | _, _, 0, _, .cons h t, e => by simp at e; subst e; exact ⟨_, rfl, h⟩
  | _, _, i + 1, T, .cons h t, e => by
    obtain ⟨v, e1, e2⟩ := TyAll.get (i := i) (T := T) t (by simpa using e)
    exact ⟨v, by simpa using e1, e2⟩
theorem stt_entry {K : PySem.W.Frag} {F H : Hp} {N : List Str} {vs : List V} {Ts : List Ty} (s : Same F H) (h : TyAll F vs Ts) : Stt K F H (start N vs) F H (ent N Ts) := by
  have hl := h.length
  refine ⟨Grow.refl s, ?_, fun i s' e => ?_, fun i j ds es l _ e => ?_⟩
  · unfold L2.start ent
    rw [List.length_append, List.length_append, List.length_map, List.length_map, List.length_replicate, List.length_replicate, hl]
  · unfold ent at e
    by_cases hi : i < Ts.length
    · rw [List.getElem?_append_left (by rw [List.length_map]; exact hi), List.getElem?_map] at e
      cases hT : Ts[i]? with
      | none => rw [hT] at e; cases e
      | some T =>
        rw [hT] at e
        cases e
        obtain ⟨v, e1, e2⟩ := h.get hT
        refine ⟨some v, ?_, v, rfl, e2⟩
        unfold L2.start
        rw [List.getElem?_append_left (by rw [List.length_map, hl]; exact hi), List.getElem?_map, e1]
        rfl
    · rw [List.getElem?_append_right (by rw [List.length_map]; omega), List.getElem?_replicate] at e
      split at e
      · rename_i hlt
        cases e
        refine ⟨none, ?_, trivial⟩
        unfold L2.start
        rw [List.length_map] at hlt
        rw [List.getElem?_append_right (by rw [List.length_map]; omega), List.getElem?_replicate, if_pos (by rw [List.length_map, hl]; exact hlt)]
      · cases e
  · unfold ent at e
    rw [List.getElem?_append] at e
    split at e
    · rw [List.getElem?_map] at e
      cases hT : Ts[i]? with
      | none => rw [hT] at e; cases e
      | some T => rw [hT] at e; cases e
    · rw [List.getElem?_replicate] at e
      split at e <;> cases e
/-- the context of a def's body from which nothing is raised -/
abbrev cx0 (P : Program) (w : World) (K : PySem.W.Frag) (mg : Str → Option Value) (base : Heap) (N : List Str) (qual : Str) (sc : Scope) (f : Addr) (cdv : Value) (A : Around) (outer : List Env) (s : Shared) (H : Hp) (E : XK) : Cx := (cxOf CX0 P w K mg base N qual sc f cdv A outer s H E).nox
theorem fn_ok {Pg : Program} {w : World} {K : PySem.W.Frag} {mg : Str → Option Value} {base : Heap} {x qual : Str} {st : Stmt} {f : Addr} {fd : FuncData} {N ps : List Str} {k : Nat} {R : List Ty → (Ty → Prop) → Prop} (Fu : Fun K x qual st f fd) (S : FnScope N ps (defScope st)) (len : ∀ Ts post, R Ts post → Ts.length = ps.length)
    (body : ∀ (cdv : Value) (A : Around) (outer : List Env) (s : Shared) (H F : Hp) (E : XK) (Ts : List Ty) (post : Ty → Prop), Room k (A.deeper (envOfC qual (defScope st) s.heap.objs.size f cdv)) → R Ts post →
      Sw ⟨cx0 Pg w K mg base N qual (defScope st) f cdv A outer s H E, F, H⟩ (defBody st) (ent N Ts) { nx := fun _ => post (dat K .none), rt := post }) : FnOk Pg w K mg base CX0 (k + 1) f fd ps (Fsp R) := by
  refine Fu.ok S (fun vs H Q E h => ?_) (fun cdv A outer s H vs Q E hr h => ?_)
  · obtain ⟨F, Ts, post, s, h1, h2, _⟩ := h
    rw [h1.length]
    exact len Ts post h2
  · obtain ⟨F, Ts, post, sm, h1, h2, h3⟩ := h
    refine ⟨_, pss_d, body cdv A outer s H F E Ts post hr h2 _ F H (stt_entry sm h1) _ ⟨fun σ F' H' ρ' p e s' => ?_, fun T v F' H' p pv g => h3 T v F' H' p pv g, fun _ _ _ _ _ p => p.elim, fun _ _ _ _ p => p.elim, fun _ _ _ _ p => p.elim⟩⟩
    exact h3 _ _ F' H' p .non s'.g
theorem ew_call {k : Nat} {f : Addr} {fd : FuncData} {ps : List Str} {R : List Ty → (Ty → Prop) → Prop} {Q : Ty → List Sv → Prop} (G : FnOk C.X.prog C.X.w C.X.K C.X.mg C.X.base CX0 k f fd ps (Fsp R)) (hr : Room k C.X.A) (hg : Gl C.X x) (hm : C.X.mg x = some (.ref f)) (hk : PySem.W.keepIn C.X.K (.ref f) = true) (hb : Binds C.X.K fd ps [])
    (h : Aw C (e :: es) ρ fun Ts ρ' => ∃ post, R Ts post ∧ ∀ T, post T → Q T ρ') (hdb : (x == ("__debug__" : Str)) = false := by decide) (he : starEach (e :: es) C.X.env = (false, eval e C.X.env) :: starEach es C.X.env := by rfl) (hpl : (backTo pos (starEach es C.X.env)).any (·.1) = false := by rfl) :
    Ew C (.Call (.Name x p) (e :: es) [] pos) ρ Q := fun σ F H st Qv kk =>
  ED.of (pe_call G hr hg hm hk hb .nil pass0 pa_d hdb he hpl) (h σ F H st _ fun Ts vs F1 H1 ρ1 h1 p1 s1 st1 => by
    obtain ⟨post, hR, hq⟩ := h1
    refine ⟨F1, Ts, post, st1.sub, ?_, hR, fun T v F' H' hp pv g => kk T v F' H' ρ1 (hq T hp) pv (s1.trans g.sF) (st1.grow g)⟩
    rw [List.append_nil]
    exact p1)
theorem ev_call {k : Nat} {f : Addr} {fd : FuncData} {ps : List Str} {R : List Ty → (Ty → Prop) → Prop} {Ts : List Ty} (G : FnOk C.X.prog C.X.w C.X.K C.X.mg C.X.base CX0 k f fd ps (Fsp R)) (hr : Room k C.X.A) (hg : Gl C.X x) (hm : C.X.mg x = some (.ref f)) (hk : PySem.W.keepIn C.X.K (.ref f) = true) (hb : Binds C.X.K fd ps [])
    (ha : Av C (e :: es) ρ Ts) (hR : R Ts (· = T)) (hdb : (x == ("__debug__" : Str)) = false := by decide) (he : starEach (e :: es) C.X.env = (false, eval e C.X.env) :: starEach es C.X.env := by rfl) (hpl : (backTo pos (starEach es C.X.env)).any (·.1) = false := by rfl) :
    Ev C (.Call (.Name x p) (e :: es) [] pos) ρ T := fun Q q => ew_call G hr hg hm hk hb (ha _ ⟨_, hR, fun T' e => e ▸ q⟩) hdb he hpl
end
end Lk

namespace Lk
open PySem PySem.Spec PyProof.Rows L2
/-! ### the bag of drawn numbers: a list of two ints of which only bounds are known -/
def bagIs (a : Addr) (h : Heap) : Prop := ∃ (g m : Int) (t u : Tok) (n : Nat), h.get? a = some { cls := .type "list", data := .seq #[.int g t, .int m u] n } ∧ 0 ≤ g ∧ 0 ≤ m ∧ m < 2147483648
def bagO (a : Addr) : HO := .ext (bagIs a)
def bagT : Ty := ⟨fun v F => ∃ a, v = .ref a ∧ F a = some (bagO a), fun e ⟨a, h1, h2⟩ => ⟨a, h1, e _ _ h2⟩⟩
section
variable {P : Program} {w : World} {H H' : Hp} {h h' : Heap} {a : Addr} {g m : Int}
theorem bag_ok {xs : List V} (hx : ObjOk P w H h a (.lst [.int g, .int m])) (b : 0 ≤ g ∧ 0 ≤ m ∧ m < 2147483648) : ObjOk P w H' h a (bagO a) := by
  obtain ⟨_, its, n, hv, e⟩ := hx
  obtain ⟨t, u, rfl⟩ := Vals.int2 hv
  exact ⟨⟨g, m, t, u, n, e, b⟩, ⟨_, e⟩, fun h1 h2 ⟨g, m, t, u, n, e, b⟩ k => ⟨g, m, t, u, n, k _ e, b⟩⟩
theorem bag_lst (hx : ObjOk P w H h a (bagO a)) : ∃ g m, 0 ≤ g ∧ 0 ≤ m ∧ m < 2147483648 ∧ ObjOk P w H' h a (.lst [.int g, .int m]) := by
  obtain ⟨⟨g, m, t, u, n, e, b⟩, _⟩ := hx
  exact ⟨g, m, b.1, b.2.1, b.2.2, by show 2 ≤ sizeLine; decide, [.int g t, .int m u], n, .cons ⟨t, rfl⟩ (.cons ⟨u, rfl⟩ .nil), e⟩
/-- an object at a told otherwise -/
theorem hok_view {o u : HO} (ok : HOk P w H h) (ha : H a = some o) (no : ∀ y, o ≠ .own y) (nt : ∀ xs, o ≠ .tup xs) (new : ObjOk P w (upd H a u) h a u) : HOk P w (upd H a u) h := fun b x e => by
  by_cases hb : b = a
  · subst hb; rw [upd_same] at e; cases e; exact new
  · rw [upd_ne hb] at e
    refine (ok b x e).stay (fun c v _ q => q) (fun c q => ?_) fun c xs q => ?_
    · rw [upd_ne (fun z => by subst z; rw [ha] at q; cases q; exact no _ rfl)]; exact q
    · rw [upd_ne (fun z => by subst z; rw [ha] at q; cases q; exact nt _ rfl)]; exact q
end
section
variable {P : Program} {w : World} {K : PySem.W.Frag} {mg : Str → Option Value} {base : Heap} {k : Nat} {f : Addr} {fd : FuncData} {ps : List Str}
/-- a draw: from the bag as a list -/
def spTakeL : Sp := fun vs H Q _ => ∃ (a : Addr) (g m n : Int), vs = [.ref a, .int n] ∧ H a = some (.lst [.int g, .int m]) ∧ 0 ≤ g ∧ 0 ≤ m ∧ m < 2147483648 ∧ 0 < n ∧ n < 1073741824 ∧
  ∀ d g' m', 0 ≤ d → d < n → 0 ≤ g' → 0 ≤ m' → m' < 2147483648 → Q (.int d) (upd H a (.lst [.int g', .int m']))
def rTake (K : PySem.W.Frag) : List Ty → (Ty → Prop) → Prop := fun Ts post => ∃ n : Int, Ts = [bagT, dat K (.int n)] ∧ 0 < n ∧ n < 1073741824 ∧ post = fun T => ∃ d : Int, T = dat K (.int d) ∧ 0 ≤ d ∧ d < n
theorem take_view (G : FnOk P w K mg base CX0 k f fd ps spTakeL) : FnOk P w K mg base CX0 k f fd ps (Fsp (rTake K)) := by
  refine ⟨fun vs H Q E h => ?_, fun A outer s H args us vs Q E hr he hb hv hs => ?_⟩
  · obtain ⟨F, Ts, post, _, h1, ⟨n, rfl, _⟩, _⟩ := h
    obtain ⟨v, w', rfl, ⟨a, rfl, _⟩, h2⟩ := ty2 h1
    cases rp_int h2
    exact G.len [.ref a, .int 1] (upd (fun _ => none) a (.lst [.int 0, .int 0])) (fun _ _ => True) (fun _ _ _ => True) ⟨a, 0, 0, 1, rfl, upd_same, by decide, by decide, by decide, by decide, by decide, fun _ _ _ _ _ _ _ _ => trivial⟩
  · obtain ⟨F, Ts, post, sm, h1, ⟨n, rfl, n1, n2, rfl⟩, kk⟩ := hs
    obtain ⟨v, w', rfl, ⟨a, rfl, hF⟩, h2⟩ := ty2 h1
    cases rp_int h2
    have hH : H a = some (bagO a) := sm _ _ hF
    obtain ⟨g, m, b1, b2, b3, new⟩ := bag_lst (H' := upd H a (.lst [])) (he.hok a _ hH)
    obtain ⟨g, m, b1, b2, b3, new⟩ : ∃ g m, 0 ≤ g ∧ 0 ≤ m ∧ m < 2147483648 ∧ ∀ H', ObjOk P w H' s.heap a (.lst [.int g, .int m]) := by
      obtain ⟨⟨g, m, t, u, n, e, b⟩, _⟩ := he.hok a _ hH
      exact ⟨g, m, b.1, b.2.1, b.2.2, fun H' => ⟨by show 2 ≤ sizeLine; decide, [.int g t, .int m u], n, .cons ⟨t, rfl⟩ (.cons ⟨u, rfl⟩ .nil), e⟩⟩
    have hok1 : HOk P w (upd H a (.lst [.int g, .int m])) s.heap := hok_view he.hok hH (fun y z => by cases z) (fun y z => by cases z) (new _)
    have nn : ∀ b, H b = none → upd H a (.lst [.int g, .int m]) b = none := fun b hb => by rw [upd_ne (fun z => by subst z; rw [hH] at hb; cases hb)]; exact hb
    have env1 : Env0 P w K mg base A outer s (upd H a (.lst [.int g, .int m])) := ⟨he.frames, he.mod, fun b o e => ⟨(he.bs b o e).1, nn b (he.bs b o e).2⟩, he.bsz, he.funs, fun b hb => nn b (he.frf b hb), hok1, he.bare⟩
    refine codeAny_mono (G.run A outer s (upd H a (.lst [.int g, .int m])) args us [.ref a, .int n] (fun v H' => ∃ d g' m', v = .int d ∧ 0 ≤ d ∧ d < n ∧ 0 ≤ g' ∧ 0 ≤ m' ∧ m' < 2147483648 ∧ H' = upd (upd H a (.lst [.int g, .int m])) a (.lst [.int g', .int m'])) E hr env1 hb hv
      ⟨a, g, m, n, rfl, upd_same, b1, b2, b3, n1, n2, fun d g' m' c1 c2 c3 c4 c5 => ⟨d, g', m', rfl, c1, c2, c3, c4, c5, rfl⟩⟩) fun r s' hq => ?_
    cases r with
    | error e => exact hq
    | ok fl =>
      cases fl with
      | next => exact hq
      | brk => exact hq
      | cont => exact hq
      | ret u =>
        obtain ⟨v, H', os, bare, un, hok, rv, d, g', m', rfl, c1, c2, c3, c4, c5, rfl⟩ := hq
        rw [upd_upd] at un hok
        have eH : upd (upd H a (.lst [.int g', .int m'])) a (bagO a) = H := by
          rw [upd_upd]
          funext b
          by_cases hb : b = a
          · subst hb; rw [upd_same, hH]
          · rw [upd_ne hb]
        have hok2 : HOk P w H s'.heap := by
          have := hok_view (u := bagO a) hok upd_same (fun y z => by cases z) (fun y z => by cases z) (bag_ok (xs := []) (hok a _ upd_same) ⟨c3, c4, c5⟩)
          rw [eH] at this
          exact this
        refine ⟨.int d, H, os, bare, ⟨fun b o e n hb hx => un.keep b o e (nn b n) hb hx, fun b o e n hb hx => un.slot b o e (nn b n) hb hx, fun b o e n hx => n, fun b o e hx => un.there b o e hx, fun _ _ q => q, fun _ _ _ q => q, fun _ ps q => ⟨#[], by rw [q]; simp⟩⟩, hok2, rv, ?_⟩
        exact kk _ _ F H ⟨d, rfl, c1, c2⟩ (.int d) (Grow.refl sm)
/-- a def that gives a new list of one's own -/
def FspO (R : List Ty → (List PyData → Prop) → Prop) : Sp := fun vs H Q _ => ∃ F Ts post, Same F H ∧ TyAll F vs Ts ∧ R Ts post ∧ ∀ ds l xs F' H', post ds → H' l = none → RpAll K F' xs ds → Grow F H F' H' → Q (.ref l) (upd H' l (.lst xs))
end
section
variable {Pg : Program} {w : World} {K : PySem.W.Frag} {mg : Str → Option Value} {base : Heap} {k : Nat} {f : Addr} {fd : FuncData} {N ps : List Str} {x qual : Str} {st : Stmt}
theorem fn_okO {R : List Ty → (List PyData → Prop) → Prop} (Fu : Fun K x qual st f fd) (S : FnScope N ps (defScope st)) (len : ∀ Ts post, R Ts post → Ts.length = ps.length)
    (body : ∀ (cdv : Value) (A : Around) (outer : List Env) (s : Shared) (H F : Hp) (E : XK) (Ts : List Ty) (post : List PyData → Prop), Room k (A.deeper (envOfC qual (defScope st) s.heap.objs.size f cdv)) → R Ts post →
      Sw ⟨cx0 Pg w K mg base N qual (defScope st) f cdv A outer s H E, F, H⟩ (defBody st) (ent N Ts) { nx := fun _ => False, rt := fun _ => False, ro := post }) : FnOk Pg w K mg base CX0 (k + 1) f fd ps (FspO (K := K) R) := by
  refine Fu.ok S (fun vs H Q E h => ?_) (fun cdv A outer s H vs Q E hr h => ?_)
  · obtain ⟨F, Ts, post, s, h1, h2, _⟩ := h
    rw [h1.length]
    exact len Ts post h2
  · obtain ⟨F, Ts, post, sm, h1, h2, h3⟩ := h
    exact ⟨_, pss_d, body cdv A outer s H F E Ts post hr h2 _ F H (stt_entry sm h1) _ ⟨fun σ F' H' ρ' p e s' => p.elim, fun T v F' H' p => p.elim, h3, fun _ _ _ _ p => p.elim, fun _ _ _ _ p => p.elim⟩⟩
/-- .. a bag from now on -/
def rBag (R : List Ty → Prop) : List Ty → (Ty → Prop) → Prop := fun Ts post => R Ts ∧ post = (· = bagT)
theorem bag_view {R : List Ty → Prop} (hl : ∀ Ts, R Ts → Ts.length = ps.length) (G : FnOk Pg w K mg base CX0 k f fd ps (FspO (K := K) fun Ts post => R Ts ∧ post = fun ds => ∃ g m : Int, ds = [.int g, .int m] ∧ 0 ≤ g ∧ 0 ≤ m ∧ m < 2147483648)) : FnOk Pg w K mg base CX0 k f fd ps (Fsp (rBag R)) := by
  refine ⟨fun vs H Q E h => ?_, fun A outer s H args us vs Q E hr he hb hv hs => ?_⟩
  · obtain ⟨F, Ts, post, _, h1, ⟨h2, _⟩, _⟩ := h
    rw [h1.length]
    exact hl _ h2
  · obtain ⟨F, Ts, post, sm, h1, ⟨h2, rfl⟩, kk⟩ := hs
    refine codeAny_mono (G.run A outer s H args us vs (fun v H' => ∃ (g m : Int) (l : Addr) (F' H1 : Hp), v = .ref l ∧ H' = upd H1 l (.lst [.int g, .int m]) ∧ 0 ≤ g ∧ 0 ≤ m ∧ m < 2147483648 ∧ H1 l = none ∧ Grow F H F' H1) E hr he hb hv
      ⟨F, Ts, _, sm, h1, ⟨h2, rfl⟩, fun ds l xs F' H' hp hn rv gr => ?_⟩) fun r s' hq => ?_
    · obtain ⟨g, m, rfl, b⟩ := hp
      have e : xs = [.int g, .int m] := RpAll.ints (ns := [g, m]) rv
      subst e
      exact ⟨g, m, l, F', H', rfl, rfl, b.1, b.2.1, b.2.2, hn, gr⟩
    cases r with
    | error e => exact hq
    | ok fl =>
      cases fl with
      | next => exact hq
      | brk => exact hq
      | cont => exact hq
      | ret u =>
        obtain ⟨v, H', os, bare, un, hok, rv, g, m, l, F', H1, rfl, rfl, b1, b2, b3, hn, gr⟩ := hq
        have hok2 : HOk Pg w (upd H1 l (bagO l)) s'.heap := by
          have := hok_view (u := bagO l) hok upd_same (fun y z => by cases z) (fun y z => by cases z) (bag_ok (xs := []) (hok l _ upd_same) ⟨b1, b2, b3⟩)
          rw [upd_upd] at this
          exact this
        have hnl : ∀ b o, H b = some o → b ≠ l := fun b o e z => by subst z; rw [gr.sH _ _ e] at hn; cases hn
        have same : ∀ b, b ≠ l → upd H1 l (bagO l) b = upd H1 l (.lst [.int g, .int m]) b := fun b hb => by rw [upd_ne hb, upd_ne hb]
        refine ⟨.ref l, upd H1 l (bagO l), os, bare, ⟨un.keep, un.slot, fun b o e n hx => ?_, un.there, fun b xs q => ?_, fun b o u q => ?_, fun b ps q => ?_⟩, hok2, rv, ?_⟩
        · have z := un.free b o e n hx
          have hb : b ≠ l := fun y => by subst y; rw [upd_same] at z; cases z
          rw [same b hb]; exact z
        · rw [same b (hnl b _ q)]; exact un.tups b xs q
        · rw [same b (hnl b _ q)]; exact un.frzs b o u q
        · rw [same b (hnl b _ q)]; exact un.tbls b ps q
        · have gr2 := Grow.new (o := bagO l) gr.sub hn
          exact kk _ _ _ _ rfl ⟨l, rfl, upd_same⟩ (gr.trans gr2)
end
end Lk

namespace Lk
open PySem PySem.Spec PyProof.Rows L2
/-! ### defs by their names -/
def Ok (P : Program) (w : World) (K : PySem.W.Frag) (mg : Str → Option Value) (base : Heap) (CX : CXT) (k : Nat) (x : Str) (ps : List Str) (sp : Sp) : Prop :=
  ∃ fd, FnOk P w K mg base CX k (He.ga K x) fd ps sp ∧ Binds K fd ps [] ∧ PySem.W.keepIn K (.ref (He.ga K x)) = true ∧ mg x = some (.ref (He.ga K x)) ∧ ∃ oc od osl, K.lookup (He.ga K x) = some ⟨oc, od, .func fd, osl⟩
/-- a def that stands behind the top -/
def DefAt (K : PySem.W.Frag) (mg : Str → Option Value) (x : Str) (st : Stmt) : Prop := (∃ fd, FunD K x x (defArgs st) (defBody st) (defScope st) [] [] (He.ga K x) fd) ∧ mg x = some (.ref (He.ga K x))
section
variable {P : Program} {w : World} {K : PySem.W.Frag} {mg : Str → Option Value} {base : Heap} {k : Nat} {x : Str} {N ps : List Str} {st : Stmt} {CX : CXT} {sp sp' : Sp}
theorem Ok.mono {j : Nat} (h : Ok P w K mg base CX k x ps sp) (hj : k ≤ j) : Ok P w K mg base CX j x ps sp := by
  obtain ⟨fd, h1, h2⟩ := h
  exact ⟨fd, h1.mono hj, h2⟩
theorem Ok.map (h : Ok P w K mg base CX k x ps sp) (f : ∀ fd, FnOk P w K mg base CX k (He.ga K x) fd ps sp → FnOk P w K mg base CX k (He.ga K x) fd ps sp') : Ok P w K mg base CX k x ps sp' := by
  obtain ⟨fd, h1, h2⟩ := h
  exact ⟨fd, f fd h1, h2⟩
/-- how the arguments bind: fun _ _ _ _ _ _ us hl => match us, hl with | [_, _], _ => rfl -/
abbrev BindsBy (x : Str) (ps : List Str) (st : Stmt) : Prop := ∀ (kV doc pm : Value) (an : Option Addr) (cdv ct : Value) (us : List Value), us.length = ps.length → bindArgs (PySem.W.fnOf x x (defArgs st) (defBody st) (defScope st) .none kV doc pm an cdv ct) ⟨us, []⟩ = pure (ps.zip us)
theorem ok_raw (D : DefAt K mg x st) (S : FnScope N ps (defScope st)) (hb : BindsBy x ps st) (len : ∀ vs H Q E, sp vs H Q E → vs.length = ps.length)
    (body : ∀ (cdv : Value) (A : Around) (outer : List Env) (s : Shared) (H : Hp) (vs : List V) (Q : VK) (E : XK), Room k (A.deeper (envOfC x (defScope st) s.heap.objs.size (He.ga K x) cdv)) → sp vs H Q E →
      SD (cx0 P w K mg base N x (defScope st) (He.ga K x) cdv A outer s H E) (defBody st) { nx := fun _ H' => Q .non H', rt := Q } (L2.start N vs) H) : Ok P w K mg base CX0 (k + 1) x ps sp := by
  obtain ⟨⟨fd, Fu⟩, hm⟩ := D
  exact ⟨fd, Fu.ok S len fun cdv A outer s H vs Q E hr h => ⟨_, PSs.nox pss_d, body cdv A outer s H vs Q E hr h⟩, Fu.bindsN hb, Fu.kp, hm, let ⟨oc, od, _, _, _, _, _, _, _, osl, _, lk, _⟩ := Fu.ex; ⟨oc, od, osl, lk⟩⟩
theorem ok_fn {R : List Ty → (Ty → Prop) → Prop} (D : DefAt K mg x st) (S : FnScope N ps (defScope st)) (hb : BindsBy x ps st) (len : ∀ Ts post, R Ts post → Ts.length = ps.length)
    (body : ∀ (cdv : Value) (A : Around) (outer : List Env) (s : Shared) (H F : Hp) (E : XK) (Ts : List Ty) (post : Ty → Prop), Room k (A.deeper (envOfC x (defScope st) s.heap.objs.size (He.ga K x) cdv)) → R Ts post →
      Sw ⟨cx0 P w K mg base N x (defScope st) (He.ga K x) cdv A outer s H E, F, H⟩ (defBody st) (ent N Ts) { nx := fun _ => post (dat K .none), rt := post }) : Ok P w K mg base CX0 (k + 1) x ps (Fsp R) := by
  refine ok_raw D S hb (fun vs H Q E h => ?_) (fun cdv A outer s H vs Q E hr h => ?_)
  · obtain ⟨F, Ts, post, s, h1, h2, _⟩ := h
    rw [h1.length]
    exact len Ts post h2
  · obtain ⟨F, Ts, post, sm, h1, h2, h3⟩ := h
    exact body cdv A outer s H F E Ts post hr h2 _ F H (stt_entry sm h1) _ ⟨fun σ F' H' ρ' p e s' => h3 _ _ F' H' p .non s'.g, fun T v F' H' p pv g => h3 T v F' H' p pv g, fun _ _ _ _ _ p => p.elim, fun _ _ _ _ p => p.elim, fun _ _ _ _ p => p.elim⟩
theorem ok_fnO {R : List Ty → (List PyData → Prop) → Prop} (D : DefAt K mg x st) (S : FnScope N ps (defScope st)) (hb : BindsBy x ps st) (len : ∀ Ts post, R Ts post → Ts.length = ps.length)
    (body : ∀ (cdv : Value) (A : Around) (outer : List Env) (s : Shared) (H F : Hp) (E : XK) (Ts : List Ty) (post : List PyData → Prop), Room k (A.deeper (envOfC x (defScope st) s.heap.objs.size (He.ga K x) cdv)) → R Ts post →
      Sw ⟨cx0 P w K mg base N x (defScope st) (He.ga K x) cdv A outer s H E, F, H⟩ (defBody st) (ent N Ts) { nx := fun _ => False, rt := fun _ => False, ro := post }) : Ok P w K mg base CX0 (k + 1) x ps (FspO (K := K) R) := by
  refine ok_raw D S hb (fun vs H Q E h => ?_) (fun cdv A outer s H vs Q E hr h => ?_)
  · obtain ⟨F, Ts, post, s, h1, h2, _⟩ := h
    rw [h1.length]
    exact len Ts post h2
  · obtain ⟨F, Ts, post, sm, h1, h2, h3⟩ := h
    exact body cdv A outer s H F E Ts post hr h2 _ F H (stt_entry sm h1) _ ⟨fun σ F' H' ρ' p e s' => p.elim, fun T v F' H' p => p.elim, h3, fun _ _ _ _ p => p.elim, fun _ _ _ _ p => p.elim⟩
end
section
variable {C : Kx} {ρ : List Sv} {a b c e : Expr} {es : List Expr} {pos p : Pos} {T : Ty} {x : Str} {Ts : List Ty} {k : Nat} {ps : List Str} {R : List Ty → (Ty → Prop) → Prop} {Q : Ty → List Sv → Prop} {m n : Int}
abbrev Kx.ok (C : Kx) (k : Nat) (x : Str) (ps : List Str) (sp : Sp) : Prop := Ok C.X.prog C.X.w C.X.K C.X.mg C.X.base CX0 k x ps sp
theorem ew_f (G : C.ok k x ps (Fsp R)) (hr : Room k C.X.A) (hg : Gl C.X x) (h : Aw C (e :: es) ρ fun Ts ρ' => ∃ post, R Ts post ∧ ∀ T, post T → Q T ρ') (hdb : (x == ("__debug__" : Str)) = false := by decide) (he : starEach (e :: es) C.X.env = (false, eval e C.X.env) :: starEach es C.X.env := by rfl) (hpl : (backTo pos (starEach es C.X.env)).any (·.1) = false := by rfl) :
    Ew C (.Call (.Name x p) (e :: es) [] pos) ρ Q := by
  obtain ⟨fd, h1, h2, h3, h4, _⟩ := G
  exact ew_call h1 hr hg h4 h3 h2 h hdb he hpl
theorem ev_f (G : C.ok k x ps (Fsp R)) (hr : Room k C.X.A) (hg : Gl C.X x) (ha : Av C (e :: es) ρ Ts) (hR : R Ts (· = T)) (hdb : (x == ("__debug__" : Str)) = false := by decide) (he : starEach (e :: es) C.X.env = (false, eval e C.X.env) :: starEach es C.X.env := by rfl) (hpl : (backTo pos (starEach es C.X.env)).any (·.1) = false := by rfl) :
    Ev C (.Call (.Name x p) (e :: es) [] pos) ρ T := fun Q q => ew_f G hr hg (ha _ ⟨_, hR, fun T' e => e ▸ q⟩) hdb he hpl

theorem Wv.is {b1 b2 : Bool} (h : Wv C e ρ b1) (q : b1 = b2) : Wv C e ρ b2 := q ▸ h
theorem Ev.w (h : Ev C e ρ T) (q : Q T ρ) : Ew C e ρ Q := h Q q
theorem Tv.w {b : Bool} {Q : Bool → List Sv → Prop} (h : Tv C e ρ b) (q : Q b ρ) : Tw C e ρ Q := h Q q
theorem Av.w {Q : List Ty → List Sv → Prop} (h : Av C es ρ Ts) (q : Q Ts ρ) : Aw C es ρ Q := h Q q
theorem Ov.w {ds : List PyData} {Q : List PyData → List Sv → Prop} (h : Ov C e ρ ds) (q : Q ds ρ) : Ow C e ρ Q := h Q q
/-- an if whose test is known to be b -/
theorem sw_ifv {A B : List Stmt} {P : Po} {b : Bool} (h : Tv C c ρ b) (h1 : b = true → Sw C A ρ P) (h2 : b = false → Sw C B ρ P) : Sw1 C (.If c A B pos) ρ P := sw_if (h _ ⟨h1, h2⟩)
theorem sw_retv {P : Po} (h : Ev C e ρ T) (q : P.rt T) : Sw1 C (.Return (some e) pos) ρ P := sw_ret (h _ q)
/-! ### the script -/
def scr (K : PySem.W.Frag) (ns : List Int) : Ty := ⟨fun v F => ∃ a, v = .ref a ∧ SqL K F a (ns.map V.int), fun e ⟨a, h1, h2⟩ => ⟨a, h1, e.seq h2⟩⟩
variable {ns : List Int}
theorem ev_lenScr (hg : Gl C.X "len") (hm : C.X.mg "len" = none) (ha : Ev C a ρ (scr C.K ns)) (he : starEach [a] C.X.env = [(false, eval a C.X.env)] := by rfl) : Ev C (.Call (.Name "len" p) [a] [] pos) ρ (dat C.K (.int (ns.length : Int))) :=
  ev_callB call_len (fun vs F H Qv h s q => by
    obtain ⟨v, rfl, a, rfl, h1⟩ := ty1 h
    exact ⟨_, ns.length, rfl, .inl ⟨_, s.seq h1, by rw [List.length_map]⟩, q _ F H (.int _) (Grow.refl s)⟩) hg hm boot_len (av_cons ha av_nil he) (he := he)
theorem ev_ixScr {k : Int} (ha : Ev C a ρ (scr C.K ns)) (hb : Ev C b ρ (dat C.K (.int k))) (hc : atI ns k = some m) (hs : PlainIx b := by exact fun _ _ => rfl) : Ev C (.Subscript a b pos) ρ (dat C.K (.int m)) :=
  ev_ix ix_list (fun x y F H Qv hx hy s q => by
    obtain ⟨a, rfl, h1⟩ := hx
    cases rp_int hy
    refine ⟨a, _, k, .int m, rfl, rfl, s.seq h1, ?_, q _ F H (.int _) (Grow.refl s)⟩
    unfold atI at hc ⊢
    rw [List.length_map]
    cases hj : ixN ns.length k with
    | none => rw [hj] at hc; cases hc
    | some j =>
      rw [hj] at hc
      show (ns.map V.int)[j]? = _
      rw [List.getElem?_map, show ns[j]? = some m from hc]
      rfl) ha hb hs
theorem cutV_ints (ns : List Int) (lo hi : Option Int) : cutV (ns.map V.int) lo hi = ((ns.drop (HT.sIx ns.length 0 lo)).take (HT.sIx ns.length ns.length hi - HT.sIx ns.length 0 lo)).map V.int := by
  unfold cutV
  rw [List.length_map, List.map_take, List.map_drop]
theorem ev_slScr {lo hi : Option Expr} {vl vh : Option Int} {p2 : Pos} (ha : Ev C a ρ (scr C.K ns)) (hl : Ev? C lo ρ vl) (hh : Ev? C hi ρ vh) :
    Ev C (.Subscript a (.Slice lo hi none p2) pos) ρ (dat C.K (.list (((ns.drop (HT.sIx ns.length 0 vl)).take (HT.sIx ns.length ns.length vh - HT.sIx ns.length 0 vl)).map .int))) :=
  ev_slice sl_list (fun x F H Qv hx s q => by
    obtain ⟨a, rfl, h1⟩ := hx
    refine ⟨a, _, rfl, s.seq h1, fun l hn => ?_⟩
    rw [cutV_ints]
    have g := Grow.new (o := .lst (((ns.drop (HT.sIx ns.length 0 vl)).take (HT.sIx ns.length ns.length vh - HT.sIx ns.length 0 vl)).map V.int)) s hn
    exact q _ _ _ (.lst upd_same RpAll.of_ints) g) ha hl hh
end
end Lk

namespace Lk
open PySem PySem.Spec PyProof.Rows L2
section
variable {C : Kx} {ρ : List Sv} {a b c e tg : Expr} {es : List Expr} {pos p : Pos} {T T1 T2 : Ty} {x y : Str} {Ts : List Ty} {k : Nat} {ps : List Str} {Q : Ty → List Sv → Prop} {m n : Int} {P : Po} {ds : List PyData} {d d' : PyData} {z z' : Str} {K : PySem.W.Frag}
/-- the name in slot i -/
theorem ev_v (i : Nat) (hi : ρ[i]? = some (.fz T)) (hN : C.X.N[i]? = some x := by rfl) (hv : Vis C.X.env.scope x := by first | exact Or.inl rfl | exact Or.inr (Or.inl rfl) | exact Or.inr (Or.inr rfl)) (hd : (x == ("__debug__" : Str)) = false := by decide) (hcd : (x == ("__classdict__" : Str)) = false := by decide) : Ev C (.Name x pos) ρ T := ev_var hi hN hv hd hcd
theorem ev_gS {t : Tok} (hm : C.X.mg x = some (.str z t)) (hg : Gl C.X x := by rfl) (hd : (x == ("__debug__" : Str)) = false := by decide) : Ev C (.Name x pos) ρ (dat C.K (.str z)) := ev_globS hg hm hd
theorem ev_gI {t : Tok} (hm : C.X.mg x = some (.int m t)) (hg : Gl C.X x := by rfl) (hd : (x == ("__debug__" : Str)) = false := by decide) : Ev C (.Name x pos) ρ (dat C.K (.int m)) := ev_globI hg hm hd

/-! by values -/
theorem bt_ixS {k : Int} {cp : Nat} (hz : z.length ≤ sizeLine) (hc : atI z.cps.toList k = some cp) : BinT rIxS (dat K (.str z)) (dat K (.int k)) (dat K (.str ⟨#[cp]⟩)) := fun x y F H Qv hx hy s q => ⟨_, _, cp, rp_str hx, rp_int hy, hz, hc, q _ F H (.str _) (Grow.refl s)⟩
theorem bt_ixL {k : Int} (hc : atI ds k = some d) : BinT (rIxL K) (dat K (.list ds)) (dat K (.int k)) (dat K d) := fun x y F H Qv hx hy s q => by
  cases rp_int hy
  cases hx with
  | lst h1 h2 =>
    obtain ⟨v, e1, e2⟩ := atI_rp h2 hc
    exact ⟨_, _, _, v, rfl, rfl, .inl (.inl (s _ _ h1)), e1, q _ F H e2 (Grow.refl s)⟩
theorem bt_ixT {k : Int} (hc : atI ds k = some d) : BinT (rIxT K) (dat K (.tuple ds)) (dat K (.int k)) (dat K d) := fun x y F H Qv hx hy s q => by
  cases rp_int hy
  cases hx with
  | tup h1 h2 =>
    obtain ⟨v, e1, e2⟩ := atI_rp h2 hc
    exact ⟨_, _, _, v, rfl, rfl, same_sqT s h1, e1, q _ F H e2 (Grow.refl s)⟩
theorem bt_add : BinT (rI0 fun i j => .int (i + j)) (dat K (.int m)) (dat K (.int n)) (dat K (.int (m + n))) := bt_I0 fun _ => .int _
theorem bt_sub : BinT (rI0 fun i j => .int (i - j)) (dat K (.int m)) (dat K (.int n)) (dat K (.int (m - n))) := bt_I0 fun _ => .int _
theorem bt_mul (hc : CMul m n) : BinT (rI CMul fun i j => .int (i * j)) (dat K (.int m)) (dat K (.int n)) (dat K (.int (m * n))) := bt_I hc fun _ => .int _
theorem bt_mod (hc : 0 < n) : BinT (rI (fun _ j => 0 < j) fun i j => .int (i % j)) (dat K (.int m)) (dat K (.int n)) (dat K (.int (m % n))) := bt_I (c := fun _ j => 0 < j) hc fun _ => .int _
theorem bt_fdiv (hc : 0 < n ∧ n < 1073741824) : BinT (rI CDiv fun i j => .int (i / j)) (dat K (.int m)) (dat K (.int n)) (dat K (.int (m / n))) := bt_I (c := CDiv) hc fun _ => .int _
theorem bt_addS (hc : z.length + z'.length ≤ sizeLine) : BinT (fun x y H Q => ∃ i j, x = .str i ∧ y = .str j ∧ i.length + j.length ≤ sizeLine ∧ Q (.str (i ++ j)) H) (dat K (.str z)) (dat K (.str z')) (dat K (.str (z ++ z'))) := bt_S (g := fun i j => .str (i ++ j)) (cnd := fun i j => i.length + j.length ≤ sizeLine) hc fun _ => .str _
theorem bt_lt : BinT (rI0 fun i j => .bl (decide (i < j))) (dat K (.int m)) (dat K (.int n)) (dat K (.bool (decide (m < n)))) := bt_I0 fun _ => .bl _
theorem bt_le : BinT (rI0 fun i j => .bl (decide (i ≤ j))) (dat K (.int m)) (dat K (.int n)) (dat K (.bool (decide (m ≤ n)))) := bt_I0 fun _ => .bl _
theorem bt_gt : BinT (rI0 fun i j => .bl (decide (j < i))) (dat K (.int m)) (dat K (.int n)) (dat K (.bool (decide (n < m)))) := bt_I0 fun _ => .bl _
theorem bt_ge : BinT (rI0 fun i j => .bl (decide (j ≤ i))) (dat K (.int m)) (dat K (.int n)) (dat K (.bool (decide (n ≤ m)))) := bt_I0 fun _ => .bl _
theorem bt_eqI : BinT rEq (dat K (.int m)) (dat K (.int n)) (dat K (.bool (decide (m = n)))) := fun x y F H Qv hx hy s q => by
  cases rp_int hx; cases rp_int hy
  refine ⟨rfl, q _ F H ?_ (Grow.refl s)⟩
  rw [show decide (V.int m = V.int n) = decide (m = n) by by_cases h : m = n <;> simp [h]]
  exact .bl _
/-- one text, or none of it -/
def rep01 (z : Str) (k : Int) : Str := if k = 0 then Str.empty else z
def rRep01 : R2 := fun x y H Q => ∃ z k, x = .str z ∧ y = .int k ∧ (k = 0 ∨ k = 1) ∧ Q (.str (rep01 z k)) H
theorem op_rep01 {X : Cx} : OpR X (binaryOp .Mult) rRep01 := by
  intro pins s σ H x y v u Q I rx ry h
  obtain ⟨z, k, rfl, rfl, hk, q⟩ := h
  obtain ⟨t, rfl⟩ := rx
  obtain ⟨t', rfl⟩ := ry
  rcases hk with rfl | rfl
  · exact PySem.P.mul_str_none (by decide) (by decide) ⟨.str Str.empty, H, I.tok _, ⟨_, rfl⟩, q⟩
  · refine PySem.P.mul_str (by decide) (fun _ h => by simp at h) (fun _ h => by simp at h) ?_
    rw [if_neg (by decide), if_pos (by simp)]
    exact ⟨.str z, H, I, ⟨t, rfl⟩, q⟩
theorem bt_rep01 {k : Int} (hk : k = 0 ∨ k = 1) : BinT rRep01 (dat K (.str z)) (dat K (.int k)) (dat K (.str (rep01 z k))) := fun x y F H Qv hx hy s q => ⟨z, k, rp_str hx, rp_int hy, hk, q _ F H (.str _) (Grow.refl s)⟩
/-! sep.join(list of texts) -/
theorem ew_join {apos : Pos} (ha : Ev C a ρ (dat C.K (.str z))) (h : Ew C e ρ fun T2 ρ2 => ∃ (ys : List Str), T2 = dat C.K (.list (ys.map .str)) ∧ (ys.map (·.length)).sum + ys.length * z.length ≤ 16777216 ∧ Q (dat C.K (.str (Txt.join z ys))) ρ2)
    (hs : starEach [e] C.X.env = [(false, eval e C.X.env)] := by rfl) (hbase : attributeBase a "join" C.X.env (eval a C.X.env) = eval a C.X.env := by rfl) (hline : (apos.endLine == pos.line) = true := by rfl) : Ew C (.Call (.Attribute a "join" apos) [e] [] pos) ρ Q := fun σ F H st Qv kk =>
  ED.of (pe_join pe_d pe_d hs hbase hline) (ha (fun T ρ1 => T = dat C.K (.str z) ∧ ρ1 = ρ) ⟨rfl, rfl⟩ σ F H st _ fun T1 x F1 H1 ρ1 h1 p1 s1 st1 => by
    obtain ⟨rfl, rfl⟩ := h1
    refine ⟨⟨z, rp_str p1⟩, h σ F1 H1 st1 _ fun T2 y F2 H2 ρ2 h2 p2 s2 st2 => ?_⟩
    obtain ⟨ys, rfl, hz, hq⟩ := h2
    cases rp_str p1
    cases p2 with
    | lst q1 q2 =>
      exact ⟨z, _, ys, rfl, rfl, .inl (by rw [← q2.strs]; exact .inl (.inl (st2.sub _ _ q1))), hz, kk _ _ F2 H2 ρ2 hq (.str _) (s1.trans s2) st2⟩)
/-! assignments -/
theorem sw_asg {g : TG} {js : List Nat} {eff : Eff} (hg : PG C.X tg g) (htg : TgOk C.K g js eff) (h : Ew C e ρ fun T ρ' => ∃ d ρ2, T = dat C.K d ∧ eff d ρ' = some ρ2 ∧ P.nx ρ2) (hs : swapsWithSole [tg] e pos.line C.X.env = pure false := by rfl) (hw : swappedStores [tg] e C.X.env = pure none := by rfl) (h1 : (assignEach [tg] C.X.env).map (·.2) = [assign tg C.X.env] := by rfl) : Sw1 C (.Assign [tg] e pos) ρ P := fun σ F H st D m =>
  SD1.of (ps_asg pe_d hg hs hw h1) (h σ F H st _ fun T v F' H' ρ' p pv e s' => by
    obtain ⟨d, ρ2, rfl, he, hq⟩ := p
    exact htg.2 d ρ' ρ2 v σ _ _ F' H' _ he pv s' fun σ' off st' => m.nx σ' F' H' ρ2 hq e st')
theorem sw_par {i j : Nat} {px py pt : Pos} {kt k2 pt2} (hc : C.X.calm = true) (hN : C.X.N.Nodup) (hi : C.X.N[i]? = some x) (hj : C.X.N[j]? = some y) (hij : i ≠ j) (hx : C.X.env.scope.names.lookup x = some .local) (hy : C.X.env.scope.names.lookup y = some .local)
    (hw : swappedStores [.Tuple [.Name x px, .Name y py] kt pt] (.Tuple [a, b] k2 pt2) C.X.env = pure (some [x, y])) (h : Ew C a ρ fun T1 ρ1 => Ew C b ρ1 fun T2 ρ2 => P.nx ((ρ2.set i (.fz T1)).set j (.fz T2)))
    (he : starEach [a, b] C.X.env = (false, eval a C.X.env) :: starEach [b] C.X.env := by rfl) (he2 : starEach [b] C.X.env = (false, eval b C.X.env) :: starEach [] C.X.env := by rfl)
    (hs : swapsWithSole [.Tuple [.Name x px, .Name y py] kt pt] (.Tuple [a, b] k2 pt2) pos.line C.X.env = pure false := by rfl) : Sw1 C (.Assign [.Tuple [.Name x px, .Name y py] kt pt] (.Tuple [a, b] k2 pt2) pos) ρ P := fun σ F H st D m =>
  SD1.of (ps_par hc hN hi hj hij hx hy (pa_cons pe_d (pa_cons pe_d pa_nil he2) he) hw hs) (h σ F H st _ fun T1 v F1 H1 ρ1 h1 p1 s1 st1 => h1 σ F1 H1 st1 _ fun T2 w F2 H2 ρ2 h2 p2 s2 st2 =>
    ⟨v, w, rfl, m.nx _ F2 H2 _ h2 (s1.trans s2) ((st2.set (T1.mono s2 p1)).set p2)⟩)
/-! what came, in short -/
theorem Ew.cut (A : PyData → Prop) (h : Ew C e ρ fun T ρ' => ρ' = ρ ∧ ∃ d, T = dat C.K d ∧ A d) (k : ∀ d, A d → Q (dat C.K d) ρ) : Ew C e ρ Q := h.mono fun T ρ' ⟨e1, d, e2, hd⟩ => by rw [e1, e2]; exact k d hd
theorem Ew.cutI (A : Int → Prop) (h : Ew C e ρ fun T ρ' => ρ' = ρ ∧ ∃ d, T = dat C.K (.int d) ∧ A d) (k : ∀ d, A d → Q (dat C.K (.int d)) ρ) : Ew C e ρ Q := h.mono fun T ρ' ⟨e1, d, e2, hd⟩ => by rw [e1, e2]; exact k d hd
theorem Ew.cutS (A : Str → Prop) (h : Ew C e ρ fun T ρ' => ρ' = ρ ∧ ∃ d, T = dat C.K (.str d) ∧ A d) (k : ∀ d, A d → Q (dat C.K (.str d)) ρ) : Ew C e ρ Q := h.mono fun T ρ' ⟨e1, d, e2, hd⟩ => by rw [e1, e2]; exact k d hd
/-! a draw -/
theorem ew_take {k : Nat} (G : C.ok k "_law_take" ["_law_bag_here", "_law_many"] (Fsp (rTake C.K))) (hr : Room k C.X.A) (hb : Ev C a ρ bagT) (h : Ew C b ρ fun T ρ' => ∃ n : Int, T = dat C.K (.int n) ∧ 0 < n ∧ n < 1073741824 ∧ ∀ d : Int, 0 ≤ d → d < n → Q (dat C.K (.int d)) ρ') (hg : Gl C.X "_law_take" := by rfl)
    (he : starEach [a, b] C.X.env = (false, eval a C.X.env) :: starEach [b] C.X.env := by rfl) (he2 : starEach [b] C.X.env = (false, eval b C.X.env) :: starEach [] C.X.env := by rfl) (hpl : (backTo pos (starEach [b] C.X.env)).any (·.1) = false := by rfl) : Ew C (.Call (.Name "_law_take" p) [a, b] [] pos) ρ Q :=
  ew_f G hr hg (aw_cons (hb _ (aw_cons (h.mono fun T ρ' ⟨n, e, n1, n2, hq⟩ => aw_nil ⟨_, ⟨n, by rw [e], n1, n2, rfl⟩, fun T' ⟨d, e', d1, d2⟩ => by rw [e']; exact hq d d1 d2⟩) he2)) he) (he := he) (hpl := hpl)
theorem ew_takeN {k : Nat} (G : C.ok k "_law_take" ["_law_bag_here", "_law_many"] (Fsp (rTake C.K))) (hr : Room k C.X.A) (hb : Ev C a ρ bagT) (hn : Ev C b ρ (dat C.K (.int n))) (n1 : 0 < n) (n2 : n < 1073741824) (h : ∀ d : Int, 0 ≤ d → d < n → Q (dat C.K (.int d)) ρ) (hg : Gl C.X "_law_take" := by rfl)
    (he : starEach [a, b] C.X.env = (false, eval a C.X.env) :: starEach [b] C.X.env := by rfl) (he2 : starEach [b] C.X.env = (false, eval b C.X.env) :: starEach [] C.X.env := by rfl) (hpl : (backTo pos (starEach [b] C.X.env)).any (·.1) = false := by rfl) : Ew C (.Call (.Name "_law_take" p) [a, b] [] pos) ρ Q :=
  ew_take G hr hb (hn _ ⟨n, rfl, n1, n2, h⟩) hg he he2 hpl
end
end Lk

namespace Lk
open PySem PySem.Spec PyProof.Rows L2
/-! ### data that may be compared -/
def chOk (x : Str) : Bool := PyData.strOk x
def fineD : Nat → PyData → Bool
  | _, .none => true
  | _, .bool _ => true
  | _, .int _ => true
  | _, .str x => chOk x
  | n + 1, .list xs => xs.all (fineD n)
  | n + 1, .tuple xs => xs.all (fineD n)
  | _, _ => false
theorem canLayAll_all : ∀ {xs : List PyData}, (∀ x ∈ xs, PyData.canLay0 x = true) → PyData.canLayAll0 xs = true
  | [], _ => by simp [PyData.canLayAll0]
  | x :: xs, h => by
    simp only [PyData.canLayAll0, Bool.and_eq_true]
    exact ⟨h x (List.mem_cons_self ..), canLayAll_all fun y hy => h y (List.mem_cons_of_mem _ hy)⟩
theorem depthAll_le {n : Nat} : ∀ {xs : List PyData}, (∀ x ∈ xs, PyData.depth x ≤ n) → PyData.depthAll xs ≤ n
  | [], _ => by simp [PyData.depthAll]
  | x :: xs, h => by
    simp only [PyData.depthAll]
    exact Nat.max_le.mpr ⟨h x (List.mem_cons_self ..), depthAll_le fun y hy => h y (List.mem_cons_of_mem _ hy)⟩
theorem fineD_lay : ∀ (n : Nat) (d : PyData), fineD n d = true → PyData.canLay0 d = true ∧ PyData.depth d ≤ n
  | _, .none, _ => ⟨by simp [PyData.canLay0], by simp [PyData.depth]⟩
  | _, .bool _, _ => ⟨by simp [PyData.canLay0], by simp [PyData.depth]⟩
  | _, .int _, _ => ⟨by simp [PyData.canLay0], by simp [PyData.depth]⟩
  | n, .str x, h => ⟨by
      have h' : chOk x = true := by cases n <;> exact h
      simp only [PyData.canLay0]; exact h', by simp [PyData.depth]⟩
  | n + 1, .list xs, h => by
    have h' : xs.all (fineD n) = true := h
    have all := List.all_eq_true.mp h'
    refine ⟨by simp only [PyData.canLay0]; exact canLayAll_all fun x hx => (fineD_lay n x (all x hx)).1, ?_⟩
    simp only [PyData.depth]
    have := depthAll_le (n := n) (xs := xs) fun x hx => (fineD_lay n x (all x hx)).2
    omega
  | n + 1, .tuple xs, h => by
    have h' : xs.all (fineD n) = true := h
    have all := List.all_eq_true.mp h'
    refine ⟨by simp only [PyData.canLay0]; exact canLayAll_all fun x hx => (fineD_lay n x (all x hx)).1, ?_⟩
    simp only [PyData.depth]
    have := depthAll_le (n := n) (xs := xs) fun x hx => (fineD_lay n x (all x hx)).2
    omega
  | 0, .list _, h => by cases h
  | 0, .tuple _, h => by cases h
  | 0, .dict _, h => by cases h
  | _ + 1, .dict _, h => by cases h
theorem fineD_shaped {n : Nat} {d : PyData} (h : fineD n d = true) (hn : n ≤ 64 := by decide) : SeqAt.shaped d = true := by
  obtain ⟨h1, h2⟩ := fineD_lay n d h
  unfold SeqAt.shaped
  rw [Bool.and_eq_true]
  exact ⟨h1, decide_eq_true (Nat.le_trans h2 hn)⟩
theorem fineD_mono : ∀ {n m : Nat} {d : PyData}, fineD n d = true → n ≤ m → fineD m d = true
  | n, m, .none, _, _ => by cases m <;> rfl
  | n, m, .bool _, _, _ => by cases m <;> rfl
  | n, m, .int _, _, _ => by cases m <;> rfl
  | n, m, .str x, h, _ => by
    have h' : chOk x = true := by cases n <;> exact h
    cases m <;> exact h'
  | n + 1, m + 1, .list xs, h, hm => by
    have all := List.all_eq_true.mp (show xs.all (fineD n) = true from h)
    show xs.all (fineD m) = true
    exact List.all_eq_true.mpr fun x hx => fineD_mono (all x hx) (by omega)
  | n + 1, m + 1, .tuple xs, h, hm => by
    have all := List.all_eq_true.mp (show xs.all (fineD n) = true from h)
    show xs.all (fineD m) = true
    exact List.all_eq_true.mpr fun x hx => fineD_mono (all x hx) (by omega)
  | 0, _, .list _, h, _ => by cases h
  | 0, _, .tuple _, h, _ => by cases h
  | 0, _, .dict _, h, _ => by cases h
  | _ + 1, _, .dict _, h, _ => by cases h
  | n + 1, 0, .list xs, _, hm => absurd hm (by omega)
  | n + 1, 0, .tuple xs, _, hm => absurd hm (by omega)
theorem chOk_mem {z : Str} (h : chOk z = true) : ∀ c ∈ z.cps.toList, c < 0x110000 := fun c hc => by
  unfold chOk PyData.strOk at h
  rw [← Array.all_toList] at h
  exact of_decide_eq_true (List.all_eq_true.mp h c hc)
theorem chOk_of {z : Str} (h : ∀ c ∈ z.cps.toList, c < 0x110000) : chOk z = true := by
  unfold chOk PyData.strOk
  rw [← Array.all_toList]
  exact List.all_eq_true.mpr fun c hc => decide_eq_true (h c hc)
theorem chOk_one {c : Nat} (h : c < 0x110000) : chOk ⟨#[c]⟩ = true := chOk_of (by intro x hx; simp at hx; omega)
theorem cps_append (x y : Str) : (x ++ y).cps.toList = x.cps.toList ++ y.cps.toList := by
  show (x.cps ++ y.cps).toList = _
  rw [Array.toList_append]
theorem chOk_append {x y : Str} (h : chOk x = true) (h' : chOk y = true) : chOk (x ++ y) = true := chOk_of fun c hc => by
  rw [cps_append] at hc
  rcases List.mem_append.mp hc with hc | hc
  · exact chOk_mem h c hc
  · exact chOk_mem h' c hc
theorem str_size (z : Str) : z.cps.toList.length = z.length := by rw [Array.length_toList]; rfl
theorem length_append (x y : Str) : (x ++ y).length = x.length + y.length := by rw [← str_size, cps_append, List.length_append, str_size, str_size]
theorem cutS_list (z : Str) (lo hi : Option Int) : (cutS z lo hi).cps.toList = (z.cps.toList.drop (HT.sIx z.length 0 lo)).take (HT.sIx z.length z.length hi - HT.sIx z.length 0 lo) := rfl
theorem cutS_length (z : Str) (lo hi : Option Int) : (cutS z lo hi).length ≤ z.length := by
  rw [← str_size, cutS_list, List.length_take, List.length_drop, str_size]
  omega
theorem chOk_cut {z : Str} (h : chOk z = true) (lo hi : Option Int) : chOk (cutS z lo hi) = true := chOk_of fun c hc => by
  rw [cutS_list] at hc
  exact chOk_mem h c (List.mem_of_mem_drop (List.mem_of_mem_take hc))
theorem eqv_nil (xs : List PyData) : PyData.eqv (.list xs) (.list []) = xs.isEmpty := by
  cases xs with
  | nil => simp [PyData.eqv, PyData.eqvAll]
  | cons x xs => simp [PyData.eqv, PyData.eqvAll]
theorem fine_chars {cs : List Nat} (h : ∀ c ∈ cs, c < 0x110000) : fineD 1 (.list (cs.map fun c => PyData.str ⟨#[c]⟩)) = true := by
  show (cs.map fun c => PyData.str ⟨#[c]⟩).all (fineD 0) = true
  refine List.all_eq_true.mpr fun d hd => ?_
  obtain ⟨c, hc, rfl⟩ := List.mem_map.mp hd
  exact chOk_one (h c hc)
/-- behind the first statement M holds -/
theorem sw_cut {C : Kx} {ρ : List Sv} {P : Po} {st : Stmt} {rest : List Stmt} (M : List Sv → Prop) (h1 : Sw1 C st ρ { P with nx := M }) (h2 : ∀ ρ', M ρ' → Sw C rest ρ' P) : Sw C (st :: rest) ρ P :=
  sw_cons (h1.mono h2 (fun _ h => h) (fun _ h => h) (fun _ h => h) (fun _ h => h))
theorem len_str {z : Str} (h : z.length < sizeLine) : lenD (.str z) = some z.length := by
  show (if z.length ≤ sizeLine then some z.length else none) = _
  rw [if_pos (Nat.le_of_lt h)]
end Lk

namespace K01
open PySem PySem.Spec PyProof.Rows L2 Lk
def top (i : Nat) : Stmt := PySem.Challenge.pw_lastkind_k01_names_and_kinds.main.body.getD i (.Pass ⟨0, 0, 0, 0⟩)
abbrev s_consists_of : Stmt := top 7
/-! consists_of: 0 word, 1 signs, 2 sign -/
theorem sc_consists_of : FnScope ["word", "signs", "sign"] ["word", "signs"] (defScope s_consists_of) := ⟨rfl, rfl, rfl, by decide +kernel, rfl, by decide +kernel, by decide +kernel⟩
theorem bi_consists_of : BindsBy "consists_of" ["word", "signs"] s_consists_of := fun _ _ _ _ _ _ us hl => match us, hl with | [_, _], _ => rfl
abbrev s_is_name : Stmt := top 8
/-! is_name: 0 thing -/
theorem sc_is_name : FnScope ["thing"] ["thing"] (defScope s_is_name) := ⟨rfl, rfl, rfl, by decide +kernel, rfl, by decide +kernel, by decide +kernel⟩
theorem bi_is_name : BindsBy "is_name" ["thing"] s_is_name := fun _ _ _ _ _ _ us hl => match us, hl with | [_], _ => rfl
abbrev s_is_kind : Stmt := top 9
/-! is_kind: 0 thing -/
theorem sc_is_kind : FnScope ["thing"] ["thing"] (defScope s_is_kind) := ⟨rfl, rfl, rfl, by decide +kernel, rfl, by decide +kernel, by decide +kernel⟩
theorem bi_is_kind : BindsBy "is_kind" ["thing"] s_is_kind := fun _ _ _ _ _ _ us hl => match us, hl with | [_], _ => rfl
abbrev s_size_of : Stmt := top 10
/-! size_of: 0 kind -/
theorem sc_size_of : FnScope ["kind"] ["kind"] (defScope s_size_of) := ⟨rfl, rfl, rfl, by decide +kernel, rfl, by decide +kernel, by decide +kernel⟩
theorem bi_size_of : BindsBy "size_of" ["kind"] s_size_of := fun _ _ _ _ _ _ us hl => match us, hl with | [_], _ => rfl
abbrev s_bag : Stmt := top 12
/-! _law_bag: 0 _law_script, 1 _law_at, 2 _law_cell, 3 _law_great, 4 _law_mixed, 5 _law_one -/
theorem sc_bag : FnScope ["_law_script", "_law_at", "_law_cell", "_law_great", "_law_mixed", "_law_one"] ["_law_script", "_law_at"] (defScope s_bag) := ⟨rfl, rfl, rfl, by decide +kernel, rfl, by decide +kernel, by decide +kernel⟩
theorem bi_bag : BindsBy "_law_bag" ["_law_script", "_law_at"] s_bag := fun _ _ _ _ _ _ us hl => match us, hl with | [_, _], _ => rfl
abbrev s_take : Stmt := top 13
/-! _law_take: 0 _law_bag_here, 1 _law_many, 2 _law_digit -/
theorem sc_take : FnScope ["_law_bag_here", "_law_many", "_law_digit"] ["_law_bag_here", "_law_many"] (defScope s_take) := ⟨rfl, rfl, rfl, by decide +kernel, rfl, by decide +kernel, by decide +kernel⟩
theorem bi_take : BindsBy "_law_take" ["_law_bag_here", "_law_many"] s_take := fun _ _ _ _ _ _ us hl => match us, hl with | [_, _], _ => rfl
abbrev s_name_ok : Stmt := top 14
/-! _law_name_ok: 0 _law_thing, 1 _law_sign -/
theorem sc_name_ok : FnScope ["_law_thing", "_law_sign"] ["_law_thing"] (defScope s_name_ok) := ⟨rfl, rfl, rfl, by decide +kernel, rfl, by decide +kernel, by decide +kernel⟩
theorem bi_name_ok : BindsBy "_law_name_ok" ["_law_thing"] s_name_ok := fun _ _ _ _ _ _ us hl => match us, hl with | [_], _ => rfl
abbrev s_kind_ok : Stmt := top 15
/-! _law_kind_ok: 0 _law_thing, 1 _law_sign -/
theorem sc_kind_ok : FnScope ["_law_thing", "_law_sign"] ["_law_thing"] (defScope s_kind_ok) := ⟨rfl, rfl, rfl, by decide +kernel, rfl, by decide +kernel, by decide +kernel⟩
theorem bi_kind_ok : BindsBy "_law_kind_ok" ["_law_thing"] s_kind_ok := fun _ _ _ _ _ _ us hl => match us, hl with | [_], _ => rfl
abbrev s_whole : Stmt := top 16
/-! _law_whole: 0 _law_thing -/
theorem sc_whole : FnScope ["_law_thing"] ["_law_thing"] (defScope s_whole) := ⟨rfl, rfl, rfl, by decide +kernel, rfl, by decide +kernel, by decide +kernel⟩
theorem bi_whole : BindsBy "_law_whole" ["_law_thing"] s_whole := fun _ _ _ _ _ _ us hl => match us, hl with | [_], _ => rfl
abbrev s_string : Stmt := top 17
/-! _law_string: 0 _law_bag_here, 1 _law_every, 2 _law_way, 3 _law_size, 4 _law_text, 5 _law_at, 6 _law_more, 7 _law_sign, 8 _law_k -/
theorem sc_string : FnScope ["_law_bag_here", "_law_every", "_law_way", "_law_size", "_law_text", "_law_at", "_law_more", "_law_sign", "_law_k"] ["_law_bag_here"] (defScope s_string) := ⟨rfl, rfl, rfl, by decide +kernel, rfl, by decide +kernel, by decide +kernel⟩
theorem bi_string : BindsBy "_law_string" ["_law_bag_here"] s_string := fun _ _ _ _ _ _ us hl => match us, hl with | [_], _ => rfl
abbrev s_law : Stmt := top 18
/-! law: 0 _law_script, 1 _law_k, 2 _law_bag_here, 3 _law_odd, 4 _law_turn, 5 _law_thing, 6 _law_told, 7 _law_due, 8 _law_one -/
theorem sc_law : FnScope ["_law_script", "_law_k", "_law_bag_here", "_law_odd", "_law_turn", "_law_thing", "_law_told", "_law_due", "_law_one"] ["_law_script"] (defScope s_law) := ⟨rfl, rfl, rfl, by decide +kernel, rfl, by decide +kernel, by decide +kernel⟩
theorem bi_law : BindsBy "law" ["_law_script"] s_law := fun _ _ _ _ _ _ us hl => match us, hl with | [_], _ => rfl
structure Tx (K : PySem.W.Frag) (mg : Str → Option Value) : Prop where
  c_LOWER : ∃ t, mg "LOWER" = some (.str "abcdefghijklmnopqrstuvwxyz" t)
  c_FIGURES : ∃ t, mg "FIGURES" = some (.str "0123456789" t)
  c_NAME_SIGNS : ∃ t, mg "NAME_SIGNS" = some (.str "abcdefghijklmnopqrstuvwxyz0123456789" t)
  c_MOST_SIGNS : ∃ t, mg "MOST_SIGNS" = some (.int 8 t)
  c_MOST_LETTERS : ∃ t, mg "MOST_LETTERS" = some (.int 6 t)
  c_MOST_SIZE : ∃ t, mg "MOST_SIZE" = some (.int 4 t)
  f_consists_of : DefAt K mg "consists_of" s_consists_of
  f_is_name : DefAt K mg "is_name" s_is_name
  f_is_kind : DefAt K mg "is_kind" s_is_kind
  f_size_of : DefAt K mg "size_of" s_size_of
  f_bag : DefAt K mg "_law_bag" s_bag
  f_take : DefAt K mg "_law_take" s_take
  f_name_ok : DefAt K mg "_law_name_ok" s_name_ok
  f_kind_ok : DefAt K mg "_law_kind_ok" s_kind_ok
  f_whole : DefAt K mg "_law_whole" s_whole
  f_string : DefAt K mg "_law_string" s_string
  f_law : DefAt K mg "law" s_law
  b_all : mg "all" = none
  b_int : mg "int" = none
  b_range : mg "range" = none
  b_abs : mg "abs" = none
  b_isinstance : mg "isinstance" = none
  b_max : mg "max" = none
  b_str : mg "str" = none
  b_len : mg "len" = none
  b_bool : mg "bool" = none
  b_min : mg "min" = none
section
variable {P : Program} {w : World} {K : PySem.W.Frag} {mg : Str → Option Value} {base : Heap}
/-! ### words -/
def LOWERS : Str := "abcdefghijklmnopqrstuvwxyz"
def FIGS : Str := "0123456789"
def SIGNS : Str := "abcdefghijklmnopqrstuvwxyz0123456789"
def conS (z y : Str) : Bool := (z.cps.toList.map fun c => decide (c ∈ y.cps.toList)).all id
def rCon (K : PySem.W.Frag) : List Ty → (Ty → Prop) → Prop := fun Ts post => ∃ z y : Str, Ts = [dat K (.str z), dat K (.str y)] ∧ z.length < sizeLine ∧ post = (· = dat K (.bool (conS z y)))
theorem ok_consists_of (T : Tx K mg) : Ok P w K mg base CX0 1 "consists_of" ["word", "signs"] (Fsp (rCon K)) := by
  refine ok_fn T.f_consists_of sc_consists_of bi_consists_of (by rintro Ts post ⟨z, y, rfl, _⟩; rfl) fun cdv A outer s H F E Ts post hr h => ?_
  obtain ⟨z, y, rfl, hz, rfl⟩ := h
  refine sw_one (sw_retv (ev_all (bs := z.cps.toList.map fun c => decide (c ∈ y.cps.toList)) rfl rfl T.b_all ?_) rfl)
  refine Ev.d (Ov.ev (ov_lc0 (own := [("sign", 2)]) (g := gName 2) (fun d => match d with | .str ⟨cs⟩ => .bool (decide (cs.toList.headD 0 ∈ y.cps.toList)) | _ => .none) rfl sc_consists_of.nd (pi_str pe_d) (src_str (ev_v 0 rfl)) (blkOk_by (own := [("sign", 2)]) (N := ["word", "signs", "sign"]) (sc := defScope s_consists_of) (by decide +kernel)) (fun _ _ _ _ _ => pg_name (i := 2) sc_consists_of.nd rfl (.inl rfl)) tg_name (by simp) (by intro j hj ds; simp at hj; subst hj; exact fun q => nomatch q) (by rw [List.length_map]; exact hz) (fun d hd => ?_))) ?_
  · obtain ⟨c, hc, rfl⟩ := List.mem_map.mp hd
    refine ⟨_, rfl, fun B hB => ?_⟩
    obtain ⟨s', H', Cc, cl, fp, hB⟩ := hB
    obtain ⟨BX, F0, H0⟩ := B
    cases hB
    exact ev_c (cv_inS (ev_v 2 rfl) (ev_v 1 rfl))
  · simp; intros; rfl
/-! names -/
def headIn (z y : Str) : Bool := match z.cps.toList with
  | c :: _ => decide (c ∈ y.cps.toList)
  | [] => false
def isNameS (z : Str) : Bool := (decide (1 ≤ (z.length : Int)) && decide ((z.length : Int) ≤ 8)) && (headIn z LOWERS && conS z SIGNS)
def isNameD : PyData → Bool
  | .str z => isNameS z
  | _ => false
/-- texts of a length that the machine takes -/
def shortD : PyData → Prop
  | .str z => z.length < sizeLine ∧ chOk z = true
  | _ => True
def rBoolOf (K : PySem.W.Frag) (f : PyData → Bool) : List Ty → (Ty → Prop) → Prop := fun Ts post => ∃ d, Ts = [dat K d] ∧ shortD d ∧ post = (· = dat K (.bool (f d)))
def isStrD : PyData → Bool
  | .str _ => true
  | _ => false
theorem kit_str (d : PyData) (h : ∀ x, d ≠ .dict x) : kitB (tyD d) "str" = some (isStrD d) := by
  cases d with
  | dict x => exact absurd rfl (h x)
  | _ => rfl
theorem rp_nodict {F : Hp} {v : V} {d : PyData} (h : Rp K F v d) : ∀ x, d ≠ .dict x := fun x e => by subst e; cases h
theorem kit_str' (d : PyData) : kitB (tyD d) "str" = some (isStrD d) := by
  cases d <;> rfl
theorem ok_is_name (T : Tx K mg) : Ok P w K mg base CX0 2 "is_name" ["thing"] (Fsp (rBoolOf K isNameD)) := by
  refine ok_fn T.f_is_name sc_is_name bi_is_name (by rintro Ts post ⟨d, rfl, _⟩; rfl) fun cdv A outer s H F E Ts post hr h => ?_
  obtain ⟨d, rfl, hd, rfl⟩ := h
  obtain ⟨t1, c1⟩ := T.c_MOST_SIGNS
  obtain ⟨t2, c2⟩ := T.c_LOWER
  obtain ⟨t3, c3⟩ := T.c_NAME_SIGNS
  cases hs : isStrD d with
  | false =>
    refine sw_cons (sw_ifv (b := true) (tv_w (Wv.is (wv_or (k' := true) (tv_not (tv_val (ev_isi rfl T.b_isinstance (ev_v 0 rfl) (ev_ty rfl T.b_str (by decide +kernel)) (kit_str' d)))) (fun h => by rw [hs] at h; cases h)) (by rw [hs]; rfl))) (fun _ => ?_) (fun h => nomatch h))
    refine sw_one (sw_retv ev_bl ?_)
    cases d with
    | str z => cases hs
    | _ => rfl
  | true =>
    cases d with
    | str z =>
      have hz : z.length < sizeLine := hd.1
      refine sw_cons (sw_ifv (tv_w (wv_or (tv_not (tv_val (ev_isi rfl T.b_isinstance (ev_v 0 rfl) (ev_ty rfl T.b_str (by decide +kernel)) (kit_str' _)))) (fun _ => wv_or1 (tv_not (tv_lele ev_int (ev_len rfl T.b_len (ev_v 0 rfl) (len_str hz)) (ev_gI c1)))))) (fun h => ?_) (fun h => ?_))
      · refine sw_one (sw_retv ev_bl ?_)
        have h1 : (decide (1 ≤ (z.length : Int)) && decide ((z.length : Int) ≤ 8)) = false := by
          cases q : (decide (1 ≤ (z.length : Int)) && decide ((z.length : Int) ≤ 8)) with
          | false => rfl
          | true => rw [q] at h; cases h
        show dat K (.bool false) = dat K (.bool (isNameS z))
        unfold isNameS
        rw [h1]
        rfl
      · have h1 : (decide (1 ≤ (z.length : Int)) && decide ((z.length : Int) ≤ 8)) = true := by
          cases q : (decide (1 ≤ (z.length : Int)) && decide ((z.length : Int) ≤ 8)) with
          | true => rfl
          | false => rw [q] at h; cases h
        have h2 : 1 ≤ z.length := by
          have := of_decide_eq_true (Bool.and_eq_true_iff.mp h1).1
          omega
        refine sw_nil ?_
        obtain ⟨c, r, hc⟩ : ∃ c r, z.cps.toList = c :: r := by
          cases q : z.cps.toList with
          | nil =>
            have := str_size z
            rw [q] at this
            simp at this
            omega
          | cons c r => exact ⟨c, r, rfl⟩
        refine sw_one (sw_retv (ev_and (ev_c (cv_inS (ev_ixS (cp := c) (ev_v 0 rfl) ev_int (Nat.le_of_lt hz) (by rw [hc]; exact atI_nat (j := 0) rfl)) (ev_gS c2))) (fun _ => ev_one (ev_f (k := 1) (ok_consists_of T) hr rfl (av_cons (ev_v 0 rfl) (av_cons (ev_gS c3) av_nil)) ⟨z, _, rfl, hz, rfl⟩))) ?_)
        show dat K _ = dat K (.bool (isNameS z))
        unfold isNameS headIn
        rw [h1, hc]
        rfl
    | _ => cases hs
end
end K01

namespace K01
open PySem PySem.Spec PyProof.Rows L2 Lk
section
variable {P : Program} {w : World} {K : PySem.W.Frag} {mg : Str → Option Value} {base : Heap}
/-! ### kinds -/
theorem cut_last (z : Str) : (cutS z none (some (-1))).cps.toList = z.cps.toList.dropLast := by
  have h := str_size z
  unfold cutS
  show ((z.cps.toList.drop (HT.sIx z.length 0 none)).take (HT.sIx z.length z.length (some (-1)) - HT.sIx z.length 0 none)) = _
  rw [HT.sIx_none, List.drop_zero, List.dropLast_eq_take, h]
  congr 1
  have e := HT.clip_eq (-1) z.length z.length
  rw [if_pos (by decide)] at e
  omega
def lastCp (z : Str) : Nat := z.cps.toList.getLastD 0
theorem atI_neg1 (z : Str) (h : 1 ≤ z.length) : atI z.cps.toList (-1) = some (lastCp z) := by
  have hs := str_size z
  cases hl : z.cps.toList with
  | nil => rw [hl] at hs; simp at hs; omega
  | cons c r =>
    have e : c :: r = (c :: r).dropLast ++ [(c :: r).getLast (List.cons_ne_nil c r)] := (List.dropLast_concat_getLast _).symm
    have e2 : lastCp z = (c :: r).getLast (List.cons_ne_nil c r) := by
      unfold lastCp
      rw [hl, List.getLastD_cons]
      rw [List.getLast_eq_getLastD]
    rw [e2]
    conv => lhs; rw [e]
    exact atI_last _ _
theorem fig_int {c : Nat} (h : c ∈ FIGS.cps.toList) : PySem.intText? ⟨#[c]⟩ = some ((c : Int) - 48) := by
  have e : FIGS.cps.toList = [48, 49, 50, 51, 52, 53, 54, 55, 56, 57] := by decide +kernel
  rw [e] at h
  simp only [List.mem_cons, List.not_mem_nil, or_false] at h
  rcases h with rfl | rfl | rfl | rfl | rfl | rfl | rfl | rfl | rfl | rfl <;> decide +kernel
def isKindS (z : Str) : Bool := (decide (2 ≤ (z.length : Int)) && decide ((z.length : Int) ≤ 6 + 1)) && (conS (cutS z none (some (-1))) LOWERS && (decide (lastCp z ∈ FIGS.cps.toList) && (decide (1 ≤ (lastCp z : Int) - 48) && decide ((lastCp z : Int) - 48 ≤ 4))))
def isKindD : PyData → Bool
  | .str z => isKindS z
  | _ => false
theorem ok_is_kind (T : Tx K mg) : Ok P w K mg base CX0 2 "is_kind" ["thing"] (Fsp (rBoolOf K isKindD)) := by
  refine ok_fn T.f_is_kind sc_is_kind bi_is_kind (by rintro Ts post ⟨d, rfl, _⟩; rfl) fun cdv A outer s H F E Ts post hr h => ?_
  obtain ⟨d, rfl, hd, rfl⟩ := h
  obtain ⟨t1, c1⟩ := T.c_MOST_LETTERS
  obtain ⟨t2, c2⟩ := T.c_LOWER
  obtain ⟨t3, c3⟩ := T.c_FIGURES
  obtain ⟨t4, c4⟩ := T.c_MOST_SIZE
  cases hs : isStrD d with
  | false =>
    refine sw_cons (sw_ifv (b := true) (tv_w (Wv.is (wv_or (k' := true) (tv_not (tv_val (ev_isi rfl T.b_isinstance (ev_v 0 rfl) (ev_ty rfl T.b_str (by decide +kernel)) (kit_str' d)))) (fun h => by rw [hs] at h; cases h)) (by rw [hs]; rfl))) (fun _ => ?_) (fun h => nomatch h))
    refine sw_one (sw_retv ev_bl ?_)
    cases d with
    | str z => cases hs
    | _ => rfl
  | true =>
    cases d with
    | str z =>
      have hz : z.length < sizeLine := hd.1
      refine sw_cons (sw_ifv (tv_w (wv_or (tv_not (tv_val (ev_isi rfl T.b_isinstance (ev_v 0 rfl) (ev_ty rfl T.b_str (by decide +kernel)) (kit_str' _)))) (fun _ => wv_or1 (tv_not (tv_lele ev_int (ev_len rfl T.b_len (ev_v 0 rfl) (len_str hz)) (ev_add (ev_gI c1) ev_int)))))) (fun h => ?_) (fun h => ?_))
      · refine sw_one (sw_retv ev_bl ?_)
        have h1 : (decide (2 ≤ (z.length : Int)) && decide ((z.length : Int) ≤ 6 + 1)) = false := by
          cases q : (decide (2 ≤ (z.length : Int)) && decide ((z.length : Int) ≤ 6 + 1)) with
          | false => rfl
          | true => rw [q] at h; cases h
        show dat K (.bool false) = dat K (.bool (isKindS z))
        unfold isKindS
        rw [h1]
        rfl
      · have h1 : (decide (2 ≤ (z.length : Int)) && decide ((z.length : Int) ≤ 6 + 1)) = true := by
          cases q : (decide (2 ≤ (z.length : Int)) && decide ((z.length : Int) ≤ 6 + 1)) with
          | true => rfl
          | false => rw [q] at h; cases h
        have h2 : 1 ≤ z.length := by
          have := of_decide_eq_true (Bool.and_eq_true_iff.mp h1).1
          omega
        refine sw_nil ?_
        have hcut : (cutS z none (some (-1))).length < sizeLine := by
          rw [← str_size, cut_last, List.length_dropLast, str_size]
          omega
        refine sw_one (sw_retv (ev_and (ev_f (k := 1) (ok_consists_of T) hr rfl (av_cons (ev_slS (vl := none) (vh := some (-1)) (ev_v 0 rfl) trivial (ev_neg ev_int) (Nat.le_of_lt hz)) (av_cons (ev_gS c2) av_nil)) ⟨_, _, rfl, hcut, rfl⟩)
          (fun _ => ev_and (ev_c (cv_inS (ev_ixS (cp := lastCp z) (ev_v 0 rfl) (ev_neg ev_int) (Nat.le_of_lt hz) (atI_neg1 z h2)) (ev_gS c3)))
          (fun hf => ev_one (ev_lele ev_int (ev_intS rfl T.b_int (ev_ixS (cp := lastCp z) (ev_v 0 rfl) (ev_neg ev_int) (Nat.le_of_lt hz) (atI_neg1 z h2)) (fig_int (of_decide_eq_true hf)) (by show 1 ≤ 640; decide)) (ev_gI c4))))) ?_)
        show dat K _ = dat K (.bool (isKindS z))
        unfold isKindS
        rw [h1]
        rfl
    | _ => cases hs
def rSize (K : PySem.W.Frag) : List Ty → (Ty → Prop) → Prop := fun Ts post => ∃ z : Str, Ts = [dat K (.str z)] ∧ 1 ≤ z.length ∧ z.length < sizeLine ∧ lastCp z ∈ FIGS.cps.toList ∧ post = (· = dat K (.int ((lastCp z : Int) - 48)))
theorem ok_size_of (T : Tx K mg) : Ok P w K mg base CX0 1 "size_of" ["kind"] (Fsp (rSize K)) := by
  refine ok_fn T.f_size_of sc_size_of bi_size_of (by rintro Ts post ⟨d, rfl, _⟩; rfl) fun cdv A outer s H F E Ts post hr h => ?_
  obtain ⟨z, rfl, h1, h2, h3, rfl⟩ := h
  exact sw_one (sw_retv (ev_intS rfl T.b_int (ev_ixS (cp := lastCp z) (ev_v 0 rfl) (ev_neg ev_int) (Nat.le_of_lt h2) (atI_neg1 z h1)) (fig_int h3) (by show 1 ≤ 640; decide)) rfl)
/-! ### the law's own -/
def isIntD : PyData → Bool
  | .int _ => true
  | _ => false
theorem kit_int (d : PyData) : ∃ b, kitB (tyD d) "int" = some b ∧ (b = true → ∃ b', kitB (tyD d) "bool" = some b' ∧ (b && !b') = isIntD d) ∧ (b = false → isIntD d = false) := by
  cases d
  case bool => exact ⟨true, rfl, fun _ => ⟨true, rfl, rfl⟩, fun h => nomatch h⟩
  case int => exact ⟨true, rfl, fun _ => ⟨false, rfl, rfl⟩, fun h => nomatch h⟩
  all_goals exact ⟨false, rfl, (fun h => nomatch h), fun _ => rfl⟩
theorem ok_whole (T : Tx K mg) : Ok P w K mg base CX0 1 "_law_whole" ["_law_thing"] (Fsp (rBoolOf K isIntD)) := by
  refine ok_fn T.f_whole sc_whole bi_whole (by rintro Ts post ⟨d, rfl, _⟩; rfl) fun cdv A outer s H F E Ts post hr h => ?_
  obtain ⟨d, rfl, hd, rfl⟩ := h
  obtain ⟨b, h1, h2, h3⟩ := kit_int d
  cases b with
  | false =>
    refine sw_one (sw_retv (ev_and (k' := false) (ev_isi rfl T.b_isinstance (ev_v 0 rfl) (ev_ty rfl T.b_int (by decide +kernel)) h1) (fun h => nomatch h)) ?_)
    rw [h3 rfl]
    rfl
  | true =>
    obtain ⟨b', h4, h5⟩ := h2 rfl
    refine sw_one (sw_retv (ev_and (ev_isi rfl T.b_isinstance (ev_v 0 rfl) (ev_ty rfl T.b_int (by decide +kernel)) h1) (fun _ => ev_one (ev_not (ev_isi rfl T.b_isinstance (ev_v 0 rfl) (ev_ty rfl T.b_bool (by decide +kernel)) h4)))) ?_)
    rw [← h5]
    rfl
end
end K01

namespace K01
open PySem PySem.Spec PyProof.Rows L2 Lk
section
variable {P : Program} {w : World} {K : PySem.W.Frag} {mg : Str → Option Value} {base : Heap}
/-! ### draws -/
theorem atI0 (a b : V) : atI [a, b] 0 = some a := atI_nat (j := 0) rfl
theorem atI1 (a b : V) : atI [a, b] 1 = some b := atI_nat (j := 1) rfl
theorem ixN0 : ixN 2 0 = some 0 := by decide
theorem ixN1 : ixN 2 1 = some 1 := by decide
theorem ok_take (T : Tx K mg) : Ok P w K mg base CX0 1 "_law_take" ["_law_bag_here", "_law_many"] (Fsp (rTake K)) := by
  refine Ok.map (sp := spTakeL) ?_ fun fd G => take_view G
  refine ok_raw T.f_take sc_take bi_take (by rintro vs H Q E ⟨a, g, m, n, rfl, _⟩; rfl) fun cdv A outer s H vs Q E hr h => ?_
  obtain ⟨a, g, m, n, rfl, hH, b1, b2, b3, n1, n2, q⟩ := h
  refine SD.of (pss_cons (ps_if (pt_cmpR op_gt (pe_ix ix_list (pv 0) pe_int (fun _ _ => rfl)) pe_int (nomark _))
      (pss_cons (ps_set (i := 2) sc_take.nd rfl (.inl rfl) (pe_op op_mod (pe_ix ix_list (pv 0) pe_int (fun _ _ => rfl)) (pv 1)))
        (pss_cons (ps_asg (pe_op op_fdiv (pe_ix ix_list (pv 0) pe_int (fun _ _ => rfl)) (pv 1)) (pg_sub (pv 0) pe_int set_list))
        (pss_one (ps_ret (pv 2))))) pss_nil)
    (pss_cons (ps_asg (pe_op op_mod (pe_callTy call_int1 (by rfl) T.b_int boot_int (pa_cons (pe_op op_add (pe_op op_mul (pe_ix ix_list (pv 0) pe_int (fun _ _ => rfl)) pe_int) pe_int) pa_nil)) pe_int) (pg_sub (pv 0) pe_int set_list))
      (pss_one (ps_ret (pe_op op_mod (pe_op op_mod (pe_callTy call_int1 (by rfl) T.b_int boot_int (pa_cons (pe_op op_pow (pe_ix ix_list (pv 0) pe_int (fun _ _ => rfl)) pe_int) pa_nil)) pe_int) (pv 1)))))) ?_
  have sq : SqL K H a [.int g, .int m] := .inl (.inl hH)
  refine ⟨_, rfl, a, _, 0, .int g, rfl, rfl, sq, atI0 _ _, g, 0, rfl, rfl, _, rfl, ?_⟩
  by_cases hg : 0 < g
  · rw [decide_eq_true hg]
    refine iteT ?_
    refine ⟨_, rfl, a, _, 0, .int g, rfl, rfl, sq, atI0 _ _, _, rfl, g, n, rfl, rfl, n1, ?_⟩
    refine ⟨_, rfl, a, _, 0, .int g, rfl, rfl, sq, atI0 _ _, _, rfl, g, n, rfl, rfl, ⟨n1, n2⟩, ?_⟩
    refine ⟨_, rfl, a, _, 0, 0, rfl, rfl, hH, ixN0, ?_⟩
    refine ⟨_, rfl, ?_⟩
    exact q (g % n) (g / n) m (Int.emod_nonneg _ (by omega)) (Int.emod_lt_of_pos _ n1) (Int.ediv_nonneg b1 (by omega)) b2 b3
  · rw [decide_eq_false hg]
    refine iteF ?_
    refine ⟨_, rfl, a, _, 1, .int m, rfl, rfl, sq, atI1 _ _, m, 48271, rfl, rfl, .inr ⟨by decide, by decide⟩, _, 12820163, rfl, rfl, .inl ⟨_, rfl, ?_⟩⟩
    refine ⟨_, _, rfl, rfl, (show (0 : Int) < 2147483647 by decide), ?_⟩
    refine ⟨_, rfl, a, _, 1, 1, rfl, rfl, hH, ixN1, ?_⟩
    have h1 : 0 ≤ (m * 48271 + 12820163) % 2147483647 := Int.emod_nonneg _ (by decide)
    have h2 : (m * 48271 + 12820163) % 2147483647 < 2147483647 := Int.emod_lt_of_pos _ (by decide)
    refine ⟨_, rfl, a, _, 1, .int ((m * 48271 + 12820163) % 2147483647), rfl, rfl, .inl (.inl upd_same), atI1 _ _, _, 3, rfl, rfl, ⟨by decide, by decide, by omega⟩, .inl ⟨_, rfl, ?_⟩⟩
    refine ⟨_, _, rfl, rfl, (show (0 : Int) < 2147483629 by decide), ?_⟩
    refine ⟨_, rfl, _, n, rfl, rfl, n1, ?_⟩
    exact q _ g _ (Int.emod_nonneg _ (by omega)) (Int.emod_lt_of_pos _ n1) b1 h1 (by omega)
/-- the bag of a cell -/
def rBagOf (K : PySem.W.Frag) : List Ty → Prop := fun Ts => ∃ (ns : List Int) (i : Nat), Ts = [scr K ns, dat K (.int (i : Int))] ∧ i ≤ 1000 ∧ ns.length ≤ 63
theorem ok_bag (T : Tx K mg) : Ok P w K mg base CX0 1 "_law_bag" ["_law_script", "_law_at"] (Fsp (rBag (rBagOf K))) := by
  refine Ok.map ?_ fun fd G => bag_view (R := rBagOf K) (by rintro Ts ⟨ns, i, rfl, _⟩; rfl) G
  refine ok_fnO T.f_bag sc_bag bi_bag (by rintro Ts post ⟨⟨ns, i, rfl, _⟩, _⟩; rfl) fun cdv A outer s H F E Ts post hr h => ?_
  obtain ⟨⟨ns, i, rfl, hi, hl⟩, rfl⟩ := h
  -- the cell
  refine sw_cons (sw_set 2 sc_bag.nd rfl (.inl rfl) ?_)
  refine Ew.cutI (fun _ => True) ?_ fun c _ => ?_
  · refine ew_if (Tv.w (tv_c (cv_lt (ev_v 1 rfl) (ev_lenScr rfl T.b_len (ev_v 0 rfl)))) ⟨fun h => ?_, fun h => Ev.w ev_int ⟨rfl, 0, rfl, trivial⟩⟩)
    have hlt : i < ns.length := by
      have := of_decide_eq_true h
      omega
    exact Ev.w (ev_ixScr (ev_v 0 rfl) (ev_v 1 rfl) (atI_nat (List.getElem?_eq_getElem hlt))) ⟨rfl, _, rfl, trivial⟩
  -- great
  refine sw_cons (sw_set 3 sc_bag.nd rfl (.inl rfl) ?_)
  refine Ew.cutI (fun g => 0 ≤ g) ?_ fun g hg => ?_
  · refine ew_if (Tv.w (tv_c (cv_ge (ev_abs rfl T.b_abs (ev_v 2 rfl)) (ev_pow ev_int ev_int ⟨by decide, by decide, by decide⟩))) ⟨fun h => ?_, fun h => Ev.w ev_int ⟨rfl, 0, rfl, Int.le_refl _⟩⟩)
    refine Ev.w (ev_abs rfl T.b_abs (ev_v 2 rfl)) ⟨rfl, _, rfl, ?_⟩
    split <;> omega
  -- mixed
  refine sw_cons (sw_set 4 sc_bag.nd rfl (.inl rfl) (Ev.w (ev_add ev_int (ev_mul ev_int (ev_v 1 rfl) (.inl ⟨by decide, by decide⟩))) ?_))
  refine sw_cons (sw_for PassesOwn.never rfl (pi_list pe_d) (src_list (ev_slScr (vl := none) (vh := some 40) (ev_v 0 rfl) trivial ev_int)) (pg_name (i := 5) sc_bag.nd rfl (.inl rfl)) tg_name
    (fun _ ρ => ∃ (m : Int) (o : Sv), ρ = [.fz (scr K ns), .fz (dat K (.int (i : Int))), .fz (dat K (.int c)), .fz (dat K (.int g)), .fz (dat K (.int m)), o]) ⟨_, _, rfl⟩ (fun j d ρ1 hd h1 => ?_) (fun ρ1 h1 => ?_))
  · obtain ⟨m, o, rfl⟩ := h1
    obtain ⟨v, hv, rfl⟩ := List.mem_map.mp (List.mem_of_getElem? hd)
    refine ⟨_, rfl, ?_⟩
    refine sw_one (sw_set 4 sc_bag.nd rfl (.inl rfl) (Ev.w (ev_mod (ev_intI rfl T.b_int (ev_add (ev_add (ev_mul (ev_v 4 rfl) ev_int (.inr ⟨by decide, by decide⟩)) (ev_mul (ev_v 5 rfl) ev_int (.inr ⟨by decide, by decide⟩))) ev_int)) ev_int (by decide)) ⟨_, _, rfl⟩))
  · obtain ⟨m, o, rfl⟩ := h1
    refine sw_one (sw_retO (Ov.w (ov_lst (av_d (ev_v 3 rfl) (av_d (ev_add (ev_mod (ev_intI rfl T.b_int (ev_add (ev_v 4 rfl) (ev_mul ev_int (ev_v 2 rfl) (.inl ⟨by decide, by decide⟩)))) ev_int (by decide)) ev_int) av_dn)) (by show 2 ≤ sizeLine; decide)) ?_))
    refine ⟨g, _, rfl, hg, ?_, ?_⟩
    · have := Int.emod_nonneg (m + 31 * c) (show (2147483563 : Int) ≠ 0 by decide)
      omega
    · have := Int.emod_lt_of_pos (m + 31 * c) (show (0 : Int) < 2147483563 by decide)
      omega
end
end K01

namespace K01
open PySem PySem.Spec PyProof.Rows L2 Lk
section
variable {P : Program} {w : World} {K : PySem.W.Frag} {mg : Str → Option Value} {base : Heap}
/-! ### the law's own decisions -/
theorem signs_split : SIGNS.cps.toList = LOWERS.cps.toList ++ FIGS.cps.toList := by decide +kernel
theorem name_same {z : Str} {c : Nat} {r : List Nat} (hc : z.cps.toList = c :: r) (hf : decide (c ∈ FIGS.cps.toList) = false) : (headIn z LOWERS && conS z SIGNS) = ((z.cps.toList.map fun c => PyData.str ⟨#[c]⟩).filter fun d => match d with | .str ⟨cs⟩ => !decide (cs.toList.headD 0 ∈ SIGNS.cps.toList) | _ => false).isEmpty := by
  have hf' : c ∉ FIGS.cps.toList := of_decide_eq_false hf
  rw [Bool.eq_iff_iff, Bool.and_eq_true, List.isEmpty_iff, List.filter_eq_nil_iff]
  unfold headIn conS
  rw [hc]
  constructor
  · rintro ⟨h1, h2⟩ d hd
    obtain ⟨x, hx, rfl⟩ := List.mem_map.mp hd
    have := List.all_eq_true.mp h2 _ (List.mem_map.mpr ⟨x, hx, rfl⟩)
    simp only [id, decide_eq_true_eq] at this
    simp [this]
  · intro h
    have all : ∀ x ∈ c :: r, x ∈ SIGNS.cps.toList := fun x hx => by
      have := h _ (List.mem_map.mpr ⟨x, hx, rfl⟩)
      simpa using this
    refine ⟨?_, List.all_eq_true.mpr fun b hb => ?_⟩
    · have := all c (List.mem_cons_self ..)
      rw [signs_split] at this
      rcases List.mem_append.mp this with h1 | h1
      · exact decide_eq_true h1
      · exact absurd h1 hf'
    · obtain ⟨x, hx, rfl⟩ := List.mem_map.mp hb
      exact decide_eq_true (all x hx)
theorem filter_chars {z : Str} {t : PyData → Bool} (h : chOk z = true) : fineD 1 (.list ((((z.cps.toList.map fun c => PyData.str ⟨#[c]⟩).filter t)).map id)) = true := by
  show List.all _ (fineD 0) = true
  refine List.all_eq_true.mpr fun d hd => ?_
  rw [List.map_id] at hd
  obtain ⟨c, hc, rfl⟩ := List.mem_map.mp (List.mem_filter.mp hd).1
  exact chOk_one (chOk_mem h c hc)
theorem ok_name_ok (T : Tx K mg) : Ok P w K mg base CX0 1 "_law_name_ok" ["_law_thing"] (Fsp (rBoolOf K isNameD)) := by
  refine ok_fn T.f_name_ok sc_name_ok bi_name_ok (by rintro Ts post ⟨d, rfl, _⟩; rfl) fun cdv A outer s H F E Ts post hr h => ?_
  obtain ⟨d, rfl, hd, rfl⟩ := h
  cases hs : isStrD d with
  | false =>
    refine sw_cons (sw_ifv (b := true) (tv_w (Wv.is (wv_or (k' := true) (tv_not (tv_val (ev_isi rfl T.b_isinstance (ev_v 0 rfl) (ev_ty rfl T.b_str (by decide +kernel)) (kit_str' d)))) (fun h => by rw [hs] at h; cases h)) (by rw [hs]; rfl))) (fun _ => ?_) (fun h => nomatch h))
    refine sw_one (sw_retv ev_bl ?_)
    cases d with
    | str z => cases hs
    | _ => rfl
  | true =>
    cases d with
    | str z =>
      obtain ⟨hz, hok⟩ : z.length < sizeLine ∧ chOk z = true := hd
      cases hcd : (decide (1 ≤ (z.length : Int)) && decide ((z.length : Int) ≤ 8)) with
      | false =>
        refine sw_cons (sw_ifv (b := true) (tv_w (Wv.is (wv_or (tv_not (tv_val (ev_isi rfl T.b_isinstance (ev_v 0 rfl) (ev_ty rfl T.b_str (by decide +kernel)) (kit_str' _)))) (fun _ => wv_or (k' := true) (tv_not (tv_lele ev_int (ev_len rfl T.b_len (ev_v 0 rfl) (len_str hz)) ev_int)) (fun h => by rw [hcd] at h; cases h))) (by rw [hcd]; rfl))) (fun _ => ?_) (fun h => nomatch h))
        refine sw_one (sw_retv ev_bl ?_)
        show dat K (.bool false) = dat K (.bool (isNameS z))
        unfold isNameS
        rw [hcd]
        rfl
      | true =>
        have h2 : 1 ≤ z.length := by
          have := of_decide_eq_true (Bool.and_eq_true_iff.mp hcd).1
          omega
        obtain ⟨c, r, hc⟩ : ∃ c r, z.cps.toList = c :: r := by
          cases q : z.cps.toList with
          | nil =>
            have := str_size z
            rw [q] at this
            simp at this
            omega
          | cons c r => exact ⟨c, r, rfl⟩
        refine sw_cons (sw_ifv (b := decide (c ∈ FIGS.cps.toList)) (tv_w (Wv.is (wv_or (tv_not (tv_val (ev_isi rfl T.b_isinstance (ev_v 0 rfl) (ev_ty rfl T.b_str (by decide +kernel)) (kit_str' _)))) (fun _ => wv_or (tv_not (tv_lele ev_int (ev_len rfl T.b_len (ev_v 0 rfl) (len_str hz)) ev_int)) (fun _ => wv_or1 (tv_c (cv_inS (ev_ixS (cp := c) (ev_v 0 rfl) ev_int (Nat.le_of_lt hz) (by rw [hc]; exact atI_nat (j := 0) rfl)) ev_str))))) (by rw [hcd]; rfl))) (fun hf => ?_) (fun hf => ?_))
        · refine sw_one (sw_retv ev_bl ?_)
          show dat K (.bool false) = dat K (.bool (isNameS z))
          unfold isNameS headIn
          rw [hcd, hc]
          have : c ∉ LOWERS.cps.toList := fun hl => by
            have h3 : c ∈ FIGS.cps.toList := of_decide_eq_true hf
            have e : ∀ x ∈ FIGS.cps.toList, x ∉ LOWERS.cps.toList := by decide +kernel
            exact e c h3 hl
          simp [this]
        · refine sw_nil ?_
          refine sw_one (sw_retv (ev_c (cv_eqD hr.units (Ov.ev (ov_lc1 (own := [("_law_sign", 1)]) (g := gName 1) id (fun d => match d with | .str ⟨cs⟩ => !decide (cs.toList.headD 0 ∈ SIGNS.cps.toList) | _ => false) rfl sc_name_ok.nd (pi_str pe_d) (src_str (ev_v 0 rfl)) (blkOk_by (own := [("_law_sign", 1)]) (N := ["_law_thing", "_law_sign"]) (sc := defScope s_name_ok) (by decide +kernel)) (fun _ _ _ _ _ => pg_name (i := 1) sc_name_ok.nd rfl (.inl rfl)) tg_name (by simp) (by intro j hj ds; simp at hj; subst hj; exact fun q => nomatch q) (by rw [List.length_map, str_size]; exact hz) (fun d hd => ?_))) (Ov.ev (ov_lst av_dn (Nat.zero_le _))) (fineD_shaped (n := 1) (filter_chars hok)) (fineD_shaped (n := 1) rfl))) ?_)
          · obtain ⟨x, hx, rfl⟩ := List.mem_map.mp hd
            refine ⟨_, rfl, fun B hB => ?_⟩
            obtain ⟨s', H', Cc, cl, fp, hB⟩ := hB
            obtain ⟨BX, F0, H0⟩ := B
            cases hB
            exact ⟨tv_c (cv_niS (ev_v 1 rfl) ev_str), fun _ => ev_v 1 rfl⟩
          · show dat K _ = dat K (.bool (isNameS z))
            unfold isNameS
            rw [hcd, eqv_nil, List.map_id, name_same hc hf]
            rfl
    | _ => cases hs
end
end K01

namespace K01
open PySem PySem.Spec PyProof.Rows L2 Lk
section
variable {P : Program} {w : World} {K : PySem.W.Frag} {mg : Str → Option Value} {base : Heap}
def FOUR : Str := "1234"
theorem kind_same {z : Str} (h4 : lastCp z ∈ FOUR.cps.toList) : (conS (cutS z none (some (-1))) LOWERS && (decide (lastCp z ∈ FIGS.cps.toList) && (decide (1 ≤ (lastCp z : Int) - 48) && decide ((lastCp z : Int) - 48 ≤ 4)))) = (((cutS z none (some (-1))).cps.toList.map fun c => PyData.str ⟨#[c]⟩).filter fun d => match d with | .str ⟨cs⟩ => !decide (cs.toList.headD 0 ∈ LOWERS.cps.toList) | _ => false).isEmpty := by
  have e : ∀ x ∈ FOUR.cps.toList, x ∈ FIGS.cps.toList ∧ 1 ≤ (x : Int) - 48 ∧ (x : Int) - 48 ≤ 4 := by decide +kernel
  obtain ⟨e1, e2, e3⟩ := e _ h4
  rw [decide_eq_true e1, decide_eq_true e2, decide_eq_true e3, Bool.and_true, Bool.and_true, Bool.and_true, Bool.eq_iff_iff, List.isEmpty_iff, List.filter_eq_nil_iff]
  unfold conS
  constructor
  · intro h2 d hd
    obtain ⟨x, hx, rfl⟩ := List.mem_map.mp hd
    have := List.all_eq_true.mp h2 _ (List.mem_map.mpr ⟨x, hx, rfl⟩)
    simp only [id, decide_eq_true_eq] at this
    simp [this]
  · intro h
    refine List.all_eq_true.mpr fun b hb => ?_
    obtain ⟨x, hx, rfl⟩ := List.mem_map.mp hb
    have := h _ (List.mem_map.mpr ⟨x, hx, rfl⟩)
    simpa using this
theorem kind_not {z : Str} (h4 : lastCp z ∉ FOUR.cps.toList) : (decide (lastCp z ∈ FIGS.cps.toList) && (decide (1 ≤ (lastCp z : Int) - 48) && decide ((lastCp z : Int) - 48 ≤ 4))) = false := by
  have e : ∀ x ∈ FIGS.cps.toList, x ∉ FOUR.cps.toList → ¬ (1 ≤ (x : Int) - 48 ∧ (x : Int) - 48 ≤ 4) := by decide +kernel
  by_cases h : lastCp z ∈ FIGS.cps.toList
  · have := e _ h h4
    by_cases h1 : 1 ≤ (lastCp z : Int) - 48
    · rw [decide_eq_false (fun q => this ⟨h1, q⟩), Bool.and_false, Bool.and_false]
    · rw [decide_eq_false h1, Bool.false_and, Bool.and_false]
  · rw [decide_eq_false h, Bool.false_and]
theorem ok_kind_ok (T : Tx K mg) : Ok P w K mg base CX0 1 "_law_kind_ok" ["_law_thing"] (Fsp (rBoolOf K isKindD)) := by
  refine ok_fn T.f_kind_ok sc_kind_ok bi_kind_ok (by rintro Ts post ⟨d, rfl, _⟩; rfl) fun cdv A outer s H F E Ts post hr h => ?_
  obtain ⟨d, rfl, hd, rfl⟩ := h
  cases hs : isStrD d with
  | false =>
    refine sw_cons (sw_ifv (b := true) (tv_w (Wv.is (wv_or (k' := true) (tv_not (tv_val (ev_isi rfl T.b_isinstance (ev_v 0 rfl) (ev_ty rfl T.b_str (by decide +kernel)) (kit_str' d)))) (fun h => by rw [hs] at h; cases h)) (by rw [hs]; rfl))) (fun _ => ?_) (fun h => nomatch h))
    refine sw_one (sw_retv ev_bl ?_)
    cases d with
    | str z => cases hs
    | _ => rfl
  | true =>
    cases d with
    | str z =>
      obtain ⟨hz, hok⟩ : z.length < sizeLine ∧ chOk z = true := hd
      cases hcd : (decide (2 ≤ (z.length : Int)) && decide ((z.length : Int) ≤ 7)) with
      | false =>
        refine sw_cons (sw_ifv (b := true) (tv_w (Wv.is (wv_or (tv_not (tv_val (ev_isi rfl T.b_isinstance (ev_v 0 rfl) (ev_ty rfl T.b_str (by decide +kernel)) (kit_str' _)))) (fun _ => wv_or (k' := true) (tv_not (tv_lele ev_int (ev_len rfl T.b_len (ev_v 0 rfl) (len_str hz)) ev_int)) (fun h => by rw [hcd] at h; cases h))) (by rw [hcd]; rfl))) (fun _ => ?_) (fun h => nomatch h))
        refine sw_one (sw_retv ev_bl ?_)
        show dat K (.bool false) = dat K (.bool (isKindS z))
        unfold isKindS
        rw [show (6 : Int) + 1 = 7 from rfl, hcd]
        rfl
      | true =>
        have h2 : 1 ≤ z.length := by
          have := of_decide_eq_true (Bool.and_eq_true_iff.mp hcd).1
          omega
        refine sw_cons (sw_ifv (b := !decide (lastCp z ∈ FOUR.cps.toList)) (tv_w (Wv.is (wv_or (tv_not (tv_val (ev_isi rfl T.b_isinstance (ev_v 0 rfl) (ev_ty rfl T.b_str (by decide +kernel)) (kit_str' _)))) (fun _ => wv_or (tv_not (tv_lele ev_int (ev_len rfl T.b_len (ev_v 0 rfl) (len_str hz)) ev_int)) (fun _ => wv_or1 (tv_c (cv_niS (ev_ixS (cp := lastCp z) (ev_v 0 rfl) (ev_neg ev_int) (Nat.le_of_lt hz) (atI_neg1 z h2)) ev_str))))) (by rw [hcd]; rfl))) (fun hf => ?_) (fun hf => ?_))
        · refine sw_one (sw_retv ev_bl ?_)
          show dat K (.bool false) = dat K (.bool (isKindS z))
          have h4 : lastCp z ∉ FOUR.cps.toList := fun q => by rw [decide_eq_true q] at hf; cases hf
          unfold isKindS
          rw [kind_not h4, Bool.and_false, Bool.and_false]
        · have h4 : lastCp z ∈ FOUR.cps.toList := by
            by_cases q : lastCp z ∈ FOUR.cps.toList
            · exact q
            · rw [decide_eq_false q] at hf; cases hf
          have hcut : (cutS z none (some (-1))).length < sizeLine := Nat.lt_of_le_of_lt (Lk.cutS_length z none (some (-1))) hz
          refine sw_nil ?_
          refine sw_one (sw_retv (ev_c (cv_eqD hr.units (Ov.ev (ov_lc1 (own := [("_law_sign", 1)]) (g := gName 1) id (fun d => match d with | .str ⟨cs⟩ => !decide (cs.toList.headD 0 ∈ LOWERS.cps.toList) | _ => false) rfl sc_kind_ok.nd (pi_str pe_d) (src_str (ev_slS (vl := none) (vh := some (-1)) (ev_v 0 rfl) trivial (ev_neg ev_int) (Nat.le_of_lt hz))) (blkOk_by (own := [("_law_sign", 1)]) (N := ["_law_thing", "_law_sign"]) (sc := defScope s_kind_ok) (by decide +kernel)) (fun _ _ _ _ _ => pg_name (i := 1) sc_kind_ok.nd rfl (.inl rfl)) tg_name (by simp) (by intro j hj ds; simp at hj; subst hj; exact fun q => nomatch q) (by rw [List.length_map, str_size]; exact hcut) (fun d hd => ?_))) (Ov.ev (ov_lst av_dn (Nat.zero_le _))) (fineD_shaped (n := 1) (filter_chars (chOk_cut hok none (some (-1))))) (fineD_shaped (n := 1) rfl))) ?_)
          · obtain ⟨x, hx, rfl⟩ := List.mem_map.mp hd
            refine ⟨_, rfl, fun B hB => ?_⟩
            obtain ⟨s', H', Cc, cl, fp, hB⟩ := hB
            obtain ⟨BX, F0, H0⟩ := B
            cases hB
            exact ⟨tv_c (cv_niS (ev_v 1 rfl) ev_str), fun _ => ev_v 1 rfl⟩
          · show dat K _ = dat K (.bool (isKindS z))
            unfold isKindS
            rw [show (6 : Int) + 1 = 7 from rfl, hcd, eqv_nil, List.map_id, kind_same h4]
            rfl
    | _ => cases hs
end
end K01

namespace K01
open PySem PySem.Spec PyProof.Rows L2 Lk
section
variable {P : Program} {w : World} {K : PySem.W.Frag} {mg : Str → Option Value} {base : Heap}
/-! ### a drawn text -/
def EVERY1 : Str := "abcdefghijklmnopqrstuvwxyz0123456789 !\"#$&'()*+,-./:;<=>?@"
def EVERY2 : Str := "ABCDEFGHIJKLMNOPQRSTUVWXYZ[\\]^_`{|}~\n"
def EVERY : Str := EVERY1 ++ EVERY2
theorem every_len : EVERY.length = 95 := by decide +kernel
theorem every_ok : chOk EVERY = true := by decide +kernel
/-- a text that is good and short -/
def Good (n : Nat) (z : Str) : Prop := z.length ≤ n ∧ chOk z = true
theorem at_nat {α : Type} {xs : List α} {k : Int} {v : α} (h0 : 0 ≤ k) (h : xs[k.toNat]? = some v) : atI xs k = some v := by
  have e : ((k.toNat : Nat) : Int) = k := by omega
  have := atI_nat (xs := xs) (j := k.toNat) (v := v) h
  rw [e] at this
  exact this
theorem at_lt {α : Type} {xs : List α} {k : Int} (h0 : 0 ≤ k) (h : k < (xs.length : Int)) : ∃ v, atI xs k = some v ∧ v ∈ xs := by
  have hl : k.toNat < xs.length := by omega
  exact ⟨xs[k.toNat], at_nat h0 (List.getElem?_eq_getElem hl), List.getElem_mem hl⟩
theorem every_at {k : Int} (h0 : 0 ≤ k) (h : k < 95) : ∃ c, atI EVERY.cps.toList k = some c ∧ c < 0x110000 := by
  obtain ⟨c, h1, h2⟩ := at_lt (xs := EVERY.cps.toList) h0 (by rw [str_size, every_len]; exact h)
  exact ⟨c, h1, chOk_mem every_ok c h2⟩
theorem join_good : ∀ ys : List Str, (∀ y ∈ ys, Good 1 y) → Good ys.length (Str.join "" ys)
  | [], _ => ⟨by decide +kernel, by decide +kernel⟩
  | [y], h => h y (List.mem_cons_self ..)
  | x :: y :: r, h => by
    have h1 := h x (List.mem_cons_self ..)
    have ih := join_good (y :: r) fun z hz => h z (List.mem_cons_of_mem _ hz)
    have e0 : (("" : Str)).length = 0 := by decide +kernel
    have e1 : chOk ("" : Str) = true := by decide +kernel
    show Good _ (x ++ ("" : Str) ++ Str.join "" (y :: r))
    refine ⟨?_, chOk_append (chOk_append h1.2 e1) ih.2⟩
    rw [Lk.length_append, Lk.length_append, e0]
    have := ih.1
    have := h1.1
    simp only [List.length_cons] at *
    omega
theorem join_good' {ys : List Str} {n : Nat} (h : ∀ y ∈ ys, Good 1 y) (hn : ys.length ≤ n) : Good n (Txt.join "" ys) := by
  have := join_good ys h
  rw [TL.join_eq]
  exact ⟨Nat.le_trans this.1 hn, this.2⟩

def rString (K : PySem.W.Frag) : List Ty → (Ty → Prop) → Prop := fun Ts post => Ts = [bagT] ∧ post = fun T => ∃ z, T = dat K (.str z) ∧ Good 30 z
theorem sizeS {n m : Nat} (h : n ≤ m) (hm : m ≤ 100000 := by decide) : n ≤ sizeLine := Nat.le_trans (Nat.le_trans h hm) (by decide)
theorem ok_string (T : Tx K mg) (G : Ok P w K mg base CX0 1 "_law_take" ["_law_bag_here", "_law_many"] (Fsp (rTake K))) : Ok P w K mg base CX0 2 "_law_string" ["_law_bag_here"] (Fsp (rString K)) := by
  refine ok_fn T.f_string sc_string bi_string (by rintro Ts post ⟨rfl, _⟩; rfl) fun cdv A outer s H F E Ts post hr h => ?_
  obtain ⟨rfl, rfl⟩ := h
  have eN : (EVERY.length : Int) = 95 := by rw [every_len]; rfl
  refine sw_cons (sw_set 1 sc_string.nd rfl (.inr rfl) (Ev.w ev_str ?_))
  refine sw_cons (sw_set 1 sc_string.nd rfl (.inr rfl) (Ev.w (Ev.d (ev_addS (ev_v 1 rfl) ev_str (by decide +kernel)) (show _ = PyData.str EVERY from rfl)) ?_))
  -- way, size
  refine sw_cons (sw_asg (pg_tup rfl (pgs_cons (pg_name (i := 2) sc_string.nd rfl (.inr rfl)) (pgs_cons (pg_name (i := 3) sc_string.nd rfl (.inl rfl)) pgs_nil))) tg_tup2 ?_)
  refine ew_tup (aw_cons (ew_takeN G hr (ev_v 0 rfl) ev_int (by decide) (by decide) fun way w0 w1 => aw_cons (ew_takeN G hr (ev_v 0 rfl) ev_int (by decide) (by decide) fun size s0 s1 => aw_nil ⟨[.int way, .int size], rfl, by show 2 ≤ sizeLine; decide, _, _, rfl, rfl, ?_⟩)))
  -- a row of drawn signs
  have chars : ∀ (J : Nat → List PyData → Prop), (J = fun i acc => ∃ ys : List Str, acc = ys.map .str ∧ ys.length = i ∧ i ≤ 11 ∧ ∀ y ∈ ys, Good 1 y) → (J 0 []) ∧ (∀ i acc, J i acc → acc.length < sizeLine) ∧ (∀ (i : Nat) acc (c : Nat), i < 11 → J i acc → c < 0x110000 → J (i + 1) (acc ++ [.str ⟨#[c]⟩])) := by
    rintro J rfl
    refine ⟨⟨[], rfl, rfl, by decide, fun y hy => by cases hy⟩, fun i acc ⟨ys, e, h1, h2, _⟩ => ?_, fun i acc c hi ⟨ys, e, h1, h2, h3⟩ hc => ⟨ys ++ [⟨#[c]⟩], by rw [e]; simp, by simp [h1], by omega, fun y hy => ?_⟩⟩
    · rw [e, List.length_map, h1]
      exact Nat.lt_of_le_of_lt h2 (by decide)
    · rcases List.mem_append.mp hy with hy | hy
      · exact h3 y hy
      · simp at hy
        subst hy
        exact ⟨Nat.le_refl _, chOk_one hc⟩
  obtain ⟨c0, c1, c2⟩ := chars _ rfl
  have nr : (List.map (fun j : Nat => PyData.int (0 + (j : Int))) (List.range size.toNat)).length = size.toNat := by rw [List.length_map, List.length_range]
  have sumle : ∀ ys : List Str, (∀ y ∈ ys, Good 1 y) → ys.length ≤ 11 → (ys.map (·.length)).sum + ys.length * (("" : Str)).length ≤ 16777216 := by
    intro ys h1 h2
    have e0 : (("" : Str)).length = 0 := by decide +kernel
    rw [e0, Nat.mul_zero, Nat.add_zero]
    have : (ys.map (·.length)).sum ≤ ys.length := by
      clear h2
      induction ys with
      | nil => exact Nat.le_refl _
      | cons y ys ih =>
        have h2 := (h1 y (List.mem_cons_self ..)).1
        have h3 := ih fun z hz => h1 z (List.mem_cons_of_mem _ hz)
        simp only [List.map_cons, List.sum_cons, List.length_cons]
        omega
    omega
  refine sw_cons (sw_ifv (tv_c (cv_eqI (ev_v 2 rfl) ev_int)) (fun hw => ?_) (fun hw => ?_))
  · -- any signs
    refine sw_one (sw_ret (ew_join ev_str (Ow.ew (ow_lc0 (own := [("_law_k", 8)]) (g := gName 8) rfl sc_string.nd (pi_range1 rfl T.b_range pa_d) (src_range1 (ev_v 3 rfl) (by omega) (by omega)) (blkOk_by (own := [("_law_k", 8)]) (N := ["_law_bag_here", "_law_every", "_law_way", "_law_size", "_law_text", "_law_at", "_law_more", "_law_sign", "_law_k"]) (sc := defScope s_string) (by decide +kernel)) (fun _ _ _ _ _ => pg_name (i := 8) sc_string.nd rfl (.inl rfl)) tg_name (by simp) (by intro j hj ds; simp at hj; subst hj; exact fun q => nomatch q) _ c0 c1 (fun i d acc hd hJ => ⟨_, rfl, fun B hB => ?_⟩) (fun acc hJ => ?_)))))
    · have hi : i < 11 := by
        have := (List.getElem?_eq_some_iff.mp hd).1
        rw [nr] at this
        omega
      obtain ⟨s', H', Cc, cl, fp, hB⟩ := hB
      obtain ⟨BX, F0, H0⟩ := B
      cases hB
      refine ew_ix ix_str (Ev.w (ev_v 1 rfl) (ew_takeN G hr (ev_v 0 rfl) (ev_len rfl T.b_len (ev_v 1 rfl) (len_str (by rw [every_len]; decide))) (by omega) (by omega) fun k k0 k1 => ?_))
      obtain ⟨c, e1, e2⟩ := every_at k0 (by omega)
      exact ⟨_, bt_ixS (by rw [every_len]; decide) e1, rfl, _, rfl, c2 i acc c hi hJ e2⟩
    · obtain ⟨ys, rfl, h1, h2, h3⟩ := hJ
      exact ⟨ys, rfl, sumle ys h3 (by omega), _, rfl, join_good' h3 (by omega)⟩
  · refine sw_nil ?_
    have w34 : way / 3 = 0 ∨ way / 3 = 1 := by omega
    refine sw_cons (sw_set 4 sc_string.nd rfl (.inl rfl) ?_)
    refine Ew.cutS (Good 11) ?_ fun z1 g1 => ?_
    · refine ew_join ev_str (Ow.ew (ow_lc0 (own := [("_law_k", 8)]) (g := gName 8) rfl sc_string.nd (pi_range1 rfl T.b_range pa_d) (src_range1 (ev_v 3 rfl) (by omega) (by omega)) (blkOk_by (own := [("_law_k", 8)]) (N := ["_law_bag_here", "_law_every", "_law_way", "_law_size", "_law_text", "_law_at", "_law_more", "_law_sign", "_law_k"]) (sc := defScope s_string) (by decide +kernel)) (fun _ _ _ _ _ => pg_name (i := 8) sc_string.nd rfl (.inl rfl)) tg_name (by simp) (by intro j hj ds; simp at hj; subst hj; exact fun q => nomatch q) _ c0 c1 (fun i d acc hd hJ => ⟨_, rfl, fun B hB => ?_⟩) (fun acc hJ => ?_)))
      · have hi : i < 11 := by
          have := (List.getElem?_eq_some_iff.mp hd).1
          rw [nr] at this
          omega
        obtain ⟨s', H', Cc, cl, fp, hB⟩ := hB
        obtain ⟨BX, F0, H0⟩ := B
        cases hB
        obtain ⟨k, hk, hk1⟩ : ∃ k : Int, atI [PyData.int 36, PyData.int 26] (way / 3) = some (.int k) ∧ 0 < k ∧ k ≤ 36 := by
          rcases w34 with e | e
          · exact ⟨36, by rw [e]; rfl, by decide, by decide⟩
          · exact ⟨26, by rw [e]; rfl, by decide, by decide⟩
        refine ew_ix ix_str (Ev.w (ev_v 1 rfl) (ew_takeN G hr (ev_v 0 rfl) (ev_ixL (Ov.ev (ov_lst (av_d ev_int (av_d ev_int av_dn)) (by show 2 ≤ sizeLine; decide))) (ev_fdiv (ev_v 2 rfl) ev_int (by decide)) hk) (by omega) (by omega) fun j j0 j1 => ?_))
        obtain ⟨c, e1, e2⟩ := every_at j0 (by omega)
        exact ⟨_, bt_ixS (by rw [every_len]; decide) e1, rfl, _, rfl, c2 i acc c hi hJ e2⟩
      · obtain ⟨ys, rfl, h1, h2, h3⟩ := hJ
        exact ⟨ys, rfl, sumle ys h3 (by omega), rfl, _, rfl, join_good' h3 (by omega)⟩
    -- if way > 2
    refine sw_cut (fun ρ' => ∃ z, Good 12 z ∧ ρ' = [.fz bagT, .fz (dat K (.str EVERY)), .fz (dat K (.int way)), .fz (dat K (.int size)), .fz (dat K (.str z)), .un, .un, .un, .un]) (sw_if (Tv.w (tv_c (cv_gt (ev_v 2 rfl) ev_int)) ⟨fun _ => ?_, fun _ => sw_nil ⟨z1, ⟨Nat.le_trans g1.1 (by decide), g1.2⟩, rfl⟩⟩)) fun ρ' hz => ?_
    · refine sw_one (sw_set 4 sc_string.nd rfl (.inl rfl) (ew_bin op_add_str (Ev.w (ev_slS (vl := none) (vh := some 7) (ev_v 4 rfl) trivial ev_int (sizeS g1.1)) (ew_ix ix_str (Ev.w (ev_v 1 rfl) (ew_bin op_add (Ev.w ev_int (ew_takeN G hr (ev_v 0 rfl) ev_int (by decide) (by decide) fun k k0 k1 => ?_))))))))
      obtain ⟨c, e1, e2⟩ := every_at (k := 26 + k) (by omega) (by omega)
      have l1 := Nat.le_trans (Lk.cutS_length z1 none (some 7)) g1.1
      refine ⟨_, bt_add, _, bt_ixS (by rw [every_len]; decide) e1, _, bt_addS ?_, _, ⟨?_, chOk_append (chOk_cut g1.2 none (some 7)) (chOk_one e2)⟩, rfl⟩
      · show (cutS z1 none (some 7)).length + 1 ≤ sizeLine
        exact sizeS (m := 12) (by omega)
      · rw [Lk.length_append]
        show (cutS z1 none (some 7)).length + 1 ≤ 12
        omega
    obtain ⟨z2, g2, rfl⟩ := hz
    refine sw_cut (fun ρ' => ∃ (z : Str) (o1 o2 o3 : Sv), Good 30 z ∧ ρ' = [.fz bagT, .fz (dat K (.str EVERY)), .fz (dat K (.int way)), .fz (dat K (.int size)), .fz (dat K (.str z)), o1, o2, o3, .un]) (sw_if (tw_cmp op_eq (ew_takeN G hr (ev_v 0 rfl) ev_int (by decide) (by decide) fun k k0 k1 => Ev.w ev_int ⟨_, bt_eqI, fun _ => ?_, fun _ => sw_nil ⟨z2, _, _, _, ⟨Nat.le_trans g2.1 (by decide), g2.2⟩, rfl⟩⟩))) fun ρ' hz => ?_
    · -- something otherwise
      have z2n : (z2.length : Int) < 1000 := by have := g2.1; omega
      refine sw_cons (sw_par (i := 5) (j := 6) rfl sc_string.nd rfl rfl (by decide) rfl rfl (by rfl) (ew_takeN G hr (ev_v 0 rfl) (ev_add (ev_len rfl T.b_len (ev_v 4 rfl) (len_str (Nat.lt_of_le_of_lt g2.1 (by decide)))) ev_int) (by omega) (by omega) fun at' a0 a1 => ew_takeN G hr (ev_v 0 rfl) ev_int (by decide) (by decide) fun more m0 m1 => ?_))
      refine sw_cons (sw_set 7 sc_string.nd rfl (.inl rfl) ?_)
      refine Ew.cutS (Good 1) ?_ fun sg gs => ?_
      · refine ew_ix ix_str (Ev.w (ev_v 1 rfl) (ew_take G hr (ev_v 0 rfl) (ew_ix ix_list (Ev.w (Ov.ev (ov_lst (av_d (ev_len rfl T.b_len (ev_v 1 rfl) (len_str (by rw [every_len]; decide))) (av_d ev_int av_dn)) (by show 2 ≤ sizeLine; decide))) (ew_takeN G hr (ev_v 0 rfl) ev_int (by decide) (by decide) fun b b0 b1 => ?_)))))
        obtain ⟨k, hk, hk1⟩ : ∃ k : Int, atI [PyData.int (EVERY.length : Int), PyData.int 36] b = some (.int k) ∧ 0 < k ∧ k ≤ 95 := by
          have : b = 0 ∨ b = 1 := by omega
          rcases this with e | e
          · exact ⟨EVERY.length, by rw [e]; rfl, by omega, by omega⟩
          · exact ⟨36, by rw [e]; rfl, by decide, by decide⟩
        refine ⟨_, bt_ixL hk, k, rfl, by omega, by omega, fun j j0 j1 => ?_⟩
        obtain ⟨c, e1, e2⟩ := every_at j0 (by omega)
        exact ⟨_, bt_ixS (by rw [every_len]; decide) e1, rfl, _, rfl, Nat.le_refl _, chOk_one e2⟩
      have r01 : ∀ b : Bool, (if b then (1 : Int) else 0) = 0 ∨ (if b then (1 : Int) else 0) = 1 := by intro b; cases b <;> simp
      have grep : ∀ k : Int, Good 1 (rep01 sg k) := fun k => by
        unfold rep01
        split
        · exact ⟨by decide +kernel, by decide +kernel⟩
        · exact gs
      have l1 := Nat.le_trans (Lk.cutS_length z2 none (some at')) g2.1
      refine sw_one (sw_set 4 sc_string.nd rfl (.inl rfl) (Ev.w (ev_addS (ev_addS (ev_slS (vl := none) (vh := some at') (ev_v 4 rfl) trivial (ev_v 5 rfl) (sizeS g2.1)) (ev_bin op_rep01 (bt_rep01 (r01 _)) (ev_v 7 rfl) (ev_intB rfl T.b_int (ev_c (cv_gt (ev_v 6 rfl) ev_int)))) ?_) (ev_slS (vl := some _) (vh := none) (ev_v 4 rfl) (ev_add (ev_v 5 rfl) (ev_intB rfl T.b_int (ev_c (cv_lt (ev_v 6 rfl) ev_int)))) trivial (sizeS g2.1)) ?_) ⟨_, _, _, _, ⟨?_, ?_⟩, rfl⟩))
      · have := (grep (if decide (0 < more) = true then 1 else 0)).1
        exact sizeS (m := 20) (by omega)
      · rw [Lk.length_append]
        have := (grep (if decide (0 < more) = true then 1 else 0)).1
        have := Nat.le_trans (Lk.cutS_length z2 (some (at' + if decide (more < 2) = true then 1 else 0)) none) g2.1
        exact sizeS (m := 40) (by omega)
      · rw [Lk.length_append, Lk.length_append]
        have := (grep (if decide (0 < more) = true then 1 else 0)).1
        have := Nat.le_trans (Lk.cutS_length z2 (some (at' + if decide (more < 2) = true then 1 else 0)) none) g2.1
        omega
      · exact chOk_append (chOk_append (chOk_cut g2.2 _ _) (grep _).2) (chOk_cut g2.2 _ _)
    obtain ⟨z3, o1, o2, o3, g3, rfl⟩ := hz
    exact sw_one (sw_retv (ev_v 4 rfl) ⟨z3, rfl, g3⟩)
end
end K01

namespace K01
open PySem PySem.Spec PyProof.Rows L2 Lk
section
variable {P : Program} {w : World} {K : PySem.W.Frag} {mg : Str → Option Value} {base : Heap}
/-! ### the law -/
theorem bt_cat {xs ys : List PyData} (h : xs.length + ys.length ≤ sizeLine) : BinT rCat (dat K (.list xs)) (dat K (.list ys)) (dat K (.list (xs ++ ys))) := fun x y F H Qv hx hy s q => by
  cases hx with
  | @lst a vs _ h1 h2 =>
    cases hy with
    | @lst b ws _ h3 h4 =>
      refine ⟨a, b, vs, ws, rfl, rfl, s _ _ h1, s _ _ h3, by rw [h2.length, h4.length]; exact h, fun p hp => ?_⟩
      have g := Grow.new (o := .lst (vs ++ ws)) s hp
      exact q _ _ _ (.lst upd_same ((RpAll.mono g.sF _ _ h2).append (RpAll.mono g.sF _ _ h4))) g
def ODD1 : List PyData := [.none, .bool true, .int 7, .int (-1), .tuple [.str "p"], .list [.str "p"], .str "", .str "int4", .str "p", .tuple [.str "int4"], .str "int5"]
def ODD2 : List PyData := [.str "int0", .str "abcdefg1", .str "abcdef1", .str "1"]
theorem odd_short : ∀ d ∈ ODD1 ++ ODD2, shortD d := by
  intro d hd
  simp only [ODD1, ODD2, List.cons_append, List.nil_append, List.mem_cons, List.not_mem_nil, or_false] at hd
  rcases hd with rfl | rfl | rfl | rfl | rfl | rfl | rfl | rfl | rfl | rfl | rfl | rfl | rfl | rfl | rfl
  all_goals first | exact trivial | exact ⟨by decide +kernel, by decide +kernel⟩
theorem kind_str {d : PyData} (h : isKindD d = true) : ∃ z, d = .str z ∧ 1 ≤ z.length ∧ lastCp z ∈ FIGS.cps.toList := by
  cases d with
  | str z =>
    have h : isKindS z = true := h
    unfold isKindS at h
    simp only [Bool.and_eq_true, decide_eq_true_eq] at h
    exact ⟨z, rfl, by omega, h.2.2.1⟩
  | _ => cases h
theorem eqv3 (a b : Bool) : PyData.eqv (.list [.bool a, .bool b, .bool a]) (.list [.bool a, .bool b, .bool a]) = true := by
  cases a <;> cases b <;> simp [PyData.eqv, PyData.eqvAll]
def rLaw (K : PySem.W.Frag) : List Ty → (Ty → Prop) → Prop := fun Ts post => ∃ ns : List Int, Ts = [scr K ns] ∧ ns.length ≤ 63 ∧ post = (· = dat K (.bool true))
theorem ok_law (T : Tx K mg) : Ok P w K mg base CX0 3 "law" ["_law_script"] (Fsp (rLaw K)) := by
  have Gt : Ok P w K mg base CX0 1 "_law_take" ["_law_bag_here", "_law_many"] (Fsp (rTake K)) := ok_take T
  have Gb : Ok P w K mg base CX0 1 "_law_bag" ["_law_script", "_law_at"] (Fsp (rBag (rBagOf K))) := ok_bag T
  have Gs : Ok P w K mg base CX0 2 "_law_string" ["_law_bag_here"] (Fsp (rString K)) := ok_string T Gt
  have Gn : Ok P w K mg base CX0 2 "is_name" ["thing"] (Fsp (rBoolOf K isNameD)) := ok_is_name T
  have Gk : Ok P w K mg base CX0 2 "is_kind" ["thing"] (Fsp (rBoolOf K isKindD)) := ok_is_kind T
  have Gno : Ok P w K mg base CX0 1 "_law_name_ok" ["_law_thing"] (Fsp (rBoolOf K isNameD)) := ok_name_ok T
  have Gko : Ok P w K mg base CX0 1 "_law_kind_ok" ["_law_thing"] (Fsp (rBoolOf K isKindD)) := ok_kind_ok T
  have Gw : Ok P w K mg base CX0 1 "_law_whole" ["_law_thing"] (Fsp (rBoolOf K isIntD)) := ok_whole T
  have Gz : Ok P w K mg base CX0 1 "size_of" ["kind"] (Fsp (rSize K)) := ok_size_of T
  refine ok_fn T.f_law sc_law bi_law (by rintro Ts post ⟨ns, rfl, _⟩; rfl) fun cdv A outer s H F E Ts post hr h => ?_
  obtain ⟨ns, rfl, hl, rfl⟩ := h
  have hr1 : Room 1 (A.deeper (envOfC "law" (defScope s_law) s.heap.objs.size (He.ga K "law") cdv)) := hr.mono (by decide)
  obtain ⟨n, hn, hn1⟩ : ∃ n : Int, n = (if (if (ns.length : Int) < 6 then (ns.length : Int) else 6) > 2 then (if (ns.length : Int) < 6 then (ns.length : Int) else 6) else 2) ∧ 0 ≤ n ∧ n ≤ 6 := ⟨_, rfl, by split <;> split <;> omega⟩
  refine sw_cons (sw_for PassesOwn.never rfl (pi_range1 rfl T.b_range pa_d) (src_range1 (n := n) (Ev.d (ev_max rfl rfl T.b_max ev_int (ev_min rfl rfl T.b_min ev_int (ev_lenScr rfl T.b_len (ev_v 0 rfl)))) (by rw [hn])) (by omega) (by omega)) (pg_name (i := 1) sc_law.nd rfl (.inl rfl)) tg_name
    (fun _ ρ => ∃ o1 o2 o3 o4 o5 o6 o7 : Sv, ρ = [.fz (scr K ns), o1, o2, o3, o4, o5, o6, o7, .un]) ⟨_, _, _, _, _, _, _, rfl⟩ (fun j d ρ1 hd h1 => ?_) (fun ρ1 h1 => ?_))
  · obtain ⟨o1, o2, o3, o4, o5, o6, o7, rfl⟩ := h1
    obtain ⟨k, hk, rfl⟩ := List.mem_map.mp (List.mem_of_getElem? hd)
    have hk1 : k < 6 := by
      have := List.mem_range.mp hk
      omega
    rw [Int.zero_add]
    refine ⟨_, rfl, ?_⟩
    refine sw_cons (sw_set 2 sc_law.nd rfl (.inl rfl) (ew_f Gb hr1 rfl (aw_cons (Ev.w (ev_v 0 rfl) (aw_cons (Ev.w (ev_v 1 rfl) (aw_nil ⟨_, ⟨⟨ns, k, rfl, by omega, hl⟩, rfl⟩, ?_⟩)))))))
    rintro _ rfl
    refine sw_cons (sw_set 3 sc_law.nd rfl (.inl rfl) (Ev.w (Ev.d (Ov.ev (ov_lst (ds := ODD1) (av_d ev_non (av_d ev_bl (av_d ev_int (av_d (ev_neg ev_int) (av_d (ev_tup (ds := [.str "p"]) (av_d ev_str av_dn) (by show 1 ≤ sizeLine; decide)) (av_d (Ov.ev (ov_lst (ds := [.str "p"]) (av_d ev_str av_dn) (by show 1 ≤ sizeLine; decide))) (av_d ev_str (av_d ev_str (av_d ev_str (av_d (ev_tup (ds := [.str "int4"]) (av_d ev_str av_dn) (by show 1 ≤ sizeLine; decide)) (av_d ev_str av_dn))))))))))) (by show 11 ≤ sizeLine; decide))) rfl) ?_))
    refine sw_cons (sw_set 3 sc_law.nd rfl (.inl rfl) (Ev.w (ev_bin op_cat (bt_cat (xs := ODD1) (ys := ODD2) (by show 15 ≤ sizeLine; decide)) (ev_v 3 rfl) (Ov.ev (ov_lst (ds := ODD2) (av_d ev_str (av_d ev_str (av_d ev_str (av_d ev_str av_dn)))) (by show 4 ≤ sizeLine; decide)))) ?_))
    refine sw_one (sw_for PassesOwn.never rfl (pi_range1 rfl T.b_range pa_d) (src_range1 ev_int (by decide) (by decide)) (pg_name (i := 4) sc_law.nd rfl (.inl rfl)) tg_name
      (fun _ ρ => ∃ o4 o5 o6 o7 : Sv, ρ = [.fz (scr K ns), .fz (dat K (.int (k : Int))), .fz bagT, .fz (dat K (.list (ODD1 ++ ODD2))), o4, o5, o6, o7, .un]) ⟨_, _, _, _, rfl⟩ (fun j2 d2 ρ2 hd2 h2 => ?_) (fun ρ2 h2 => ?_))
    · obtain ⟨o4, o5, o6, o7, rfl⟩ := h2
      obtain ⟨t, ht, rfl⟩ := List.mem_map.mp (List.mem_of_getElem? hd2)
      refine ⟨_, rfl, ?_⟩
      refine sw_cons (sw_set 5 sc_law.nd rfl (.inl rfl) (Ew.cut shortD ?_ fun d sd => ?_))
      · refine ew_if (Tv.w (tv_c (cv_lt (ev_v 4 rfl) ev_int)) ⟨fun _ => ?_, fun _ => ?_⟩)
        · refine ew_f Gs hr rfl (aw_cons (Ev.w (ev_v 2 rfl) (aw_nil ⟨_, ⟨rfl, rfl⟩, ?_⟩)))
          rintro _ ⟨z, rfl, gz⟩
          exact ⟨rfl, _, rfl, Nat.lt_of_le_of_lt gz.1 (by decide), gz.2⟩
        · refine ew_ix ix_list (Ev.w (ev_v 3 rfl) (ew_takeN Gt hr1 (ev_v 2 rfl) ev_int (by decide) (by decide) fun b b0 b1 => ?_))
          obtain ⟨v, e1, e2⟩ := at_lt (xs := ODD1 ++ ODD2) b0 (by show b < 15; exact b1)
          exact ⟨_, bt_ixL e1, rfl, _, rfl, odd_short v e2⟩
      refine sw_cons (sw_set 6 sc_law.nd rfl (.inl rfl) (Ev.w (Ov.ev (ov_lst (ds := [.bool (isNameD d), .bool (isKindD d), .bool (isNameD d)]) (av_d (ev_f Gn hr rfl (av_cons (ev_v 5 rfl) av_nil) ⟨d, rfl, sd, rfl⟩) (av_d (ev_f Gk hr rfl (av_cons (ev_v 5 rfl) av_nil) ⟨d, rfl, sd, rfl⟩) (av_d (ev_f Gn hr rfl (av_cons (ev_v 5 rfl) av_nil) ⟨d, rfl, sd, rfl⟩) av_dn))) (by show 3 ≤ sizeLine; decide))) ?_))
      refine sw_cons (sw_set 7 sc_law.nd rfl (.inl rfl) (Ev.w (Ov.ev (ov_lst (ds := [.bool (isNameD d), .bool (isKindD d), .bool (isNameD d)]) (av_d (ev_f Gno hr1 rfl (av_cons (ev_v 5 rfl) av_nil) ⟨d, rfl, sd, rfl⟩) (av_d (ev_f Gko hr1 rfl (av_cons (ev_v 5 rfl) av_nil) ⟨d, rfl, sd, rfl⟩) (av_d (ev_f Gno hr1 rfl (av_cons (ev_v 5 rfl) av_nil) ⟨d, rfl, sd, rfl⟩) av_dn))) (by show 3 ≤ sizeLine; decide))) ?_))
      refine sw_cons (sw_ifv (b := false) (tv_w (Wv.is (wv_or (tv_c (cv_neD hr.units (ev_v 6 rfl) (ev_v 7 rfl) (fineD_shaped (n := 1) rfl) (fineD_shaped (n := 1) rfl))) (fun _ => wv_or1 (tv_not (tv_val (ev_all (bs := [true, true, true]) rfl rfl T.b_all (Ev.d (Ov.ev (ov_lc0 (own := [("_law_one", 8)]) (g := gName 8) (fun _ => .bool true) rfl sc_law.nd (pi_list pe_d) (src_list (ev_v 6 rfl)) (blkOk_by (own := [("_law_one", 8)]) (N := ["_law_script", "_law_k", "_law_bag_here", "_law_odd", "_law_turn", "_law_thing", "_law_told", "_law_due", "_law_one"]) (sc := defScope s_law) (by decide +kernel)) (fun _ _ _ _ _ => pg_name (i := 8) sc_law.nd rfl (.inl rfl)) tg_name (by simp) (by intro j hj ds; simp at hj; subst hj; exact fun q => nomatch q) (by show 3 < sizeLine; decide) (fun d1 hd1 => ⟨_, rfl, fun B hB => ?_⟩))) (by rfl))))))) (by rw [eqv3]; rfl))) (fun h => nomatch h) (fun _ => sw_nil ?_))
      · obtain ⟨s', H', Cc, cl, fp, hB⟩ := hB
        obtain ⟨BX, F0, H0⟩ := B
        cases hB
        have hk : kitB (tyD d1) "bool" = some true := by
          simp only [List.mem_cons, List.not_mem_nil, or_false] at hd1
          rcases hd1 with rfl | rfl | rfl <;> rfl
        exact ev_isi rfl T.b_isinstance (ev_v 8 rfl) (ev_ty rfl T.b_bool (by decide +kernel)) hk
      cases hkd : isKindD d with
      | false =>
        refine sw_one (sw_ifv (b := false) (tv_w (Wv.is (wv_and (k' := false) (tv_val (ev_ixL (ev_v 7 rfl) ev_int (atI_nat (j := 1) rfl))) (fun h => nomatch h)) (by rfl))) (fun h => nomatch h) (fun _ => sw_nil ⟨_, _, _, _, rfl⟩))
      | true =>
        obtain ⟨z, rfl, z1, z2⟩ := kind_str hkd
        have zs : z.length < sizeLine := sd.1
        refine sw_one (sw_ifv (b := false) (tv_w (Wv.is (wv_and (tv_val (ev_ixL (ev_v 7 rfl) ev_int (atI_nat (j := 1) rfl))) (fun _ => wv_and1 (tv_w (wv_or (tv_not (tv_val (ev_f Gw hr1 rfl (av_cons (ev_f Gz hr1 rfl (av_cons (ev_v 5 rfl) av_nil) ⟨z, rfl, z1, zs, z2, rfl⟩) av_nil) ⟨_, rfl, trivial, rfl⟩))) (fun _ => wv_or1 (tv_c (cv_neI (ev_f Gz hr1 rfl (av_cons (ev_v 5 rfl) av_nil) ⟨z, rfl, z1, zs, z2, rfl⟩) (ev_intS rfl T.b_int (ev_ixS (cp := lastCp z) (ev_v 5 rfl) (ev_neg ev_int) (Nat.le_of_lt zs) (atI_neg1 z z1)) (fig_int z2) (by show 1 ≤ 640; decide))))))))) (by rw [decide_eq_true rfl]; rfl))) (fun h => nomatch h) (fun _ => sw_nil ⟨_, _, _, _, rfl⟩))
    · obtain ⟨o4, o5, o6, o7, rfl⟩ := h2
      exact ⟨_, _, _, _, _, _, _, rfl⟩
  · obtain ⟨o1, o2, o3, o4, o5, o6, o7, rfl⟩ := h1
    have z8 : ∀ z ∈ (["z9999999", "z99999999", "zzzzzz4"] : List Str), shortD (.str z) := by
      intro z hz
      simp only [List.mem_cons, List.not_mem_nil, or_false] at hz
      rcases hz with rfl | rfl | rfl <;> exact ⟨by decide +kernel, by decide +kernel⟩
    refine sw_one (sw_retv (ev_and (ev_c (cv_isB (ev_f Gn hr rfl (av_cons ev_str av_nil) ⟨_, rfl, z8 _ (by simp), rfl⟩) ev_bl)) (fun _ => ev_and (ev_c (cv_isB (ev_f Gn hr rfl (av_cons ev_str av_nil) ⟨_, rfl, z8 _ (by simp), rfl⟩) ev_bl)) (fun _ => ev_one (ev_c (cv_isB (ev_f Gk hr rfl (av_cons ev_str av_nil) ⟨_, rfl, z8 _ (by simp), rfl⟩) ev_bl))))) ?_)
    exact congrArg (fun b => dat K (.bool b)) (show ((isNameS "z9999999" == true) && ((isNameS "z99999999" == false) && (isKindS "zzzzzz4" == true))) = true by decide +kernel)
end
end K01

namespace K01
open PySem PySem.Spec PyProof.Rows L2 Lk
def d_consists_of : He.DefD := ⟨("consists_of", none), "consists_of", "consists_of", defArgs s_consists_of, defBody s_consists_of, defScope s_consists_of, [], []⟩
def d_is_name : He.DefD := ⟨("is_name", none), "is_name", "is_name", defArgs s_is_name, defBody s_is_name, defScope s_is_name, [], []⟩
def d_is_kind : He.DefD := ⟨("is_kind", none), "is_kind", "is_kind", defArgs s_is_kind, defBody s_is_kind, defScope s_is_kind, [], []⟩
def d_size_of : He.DefD := ⟨("size_of", none), "size_of", "size_of", defArgs s_size_of, defBody s_size_of, defScope s_size_of, [], []⟩
def d_bag : He.DefD := ⟨("_law_bag", none), "_law_bag", "_law_bag", defArgs s_bag, defBody s_bag, defScope s_bag, [], []⟩
def d_take : He.DefD := ⟨("_law_take", none), "_law_take", "_law_take", defArgs s_take, defBody s_take, defScope s_take, [], []⟩
def d_name_ok : He.DefD := ⟨("_law_name_ok", none), "_law_name_ok", "_law_name_ok", defArgs s_name_ok, defBody s_name_ok, defScope s_name_ok, [], []⟩
def d_kind_ok : He.DefD := ⟨("_law_kind_ok", none), "_law_kind_ok", "_law_kind_ok", defArgs s_kind_ok, defBody s_kind_ok, defScope s_kind_ok, [], []⟩
def d_whole : He.DefD := ⟨("_law_whole", none), "_law_whole", "_law_whole", defArgs s_whole, defBody s_whole, defScope s_whole, [], []⟩
def d_string : He.DefD := ⟨("_law_string", none), "_law_string", "_law_string", defArgs s_string, defBody s_string, defScope s_string, [], []⟩
def d_law : He.DefD := ⟨("law", none), "law", "law", defArgs s_law, defBody s_law, defScope s_law, [], []⟩
def fn : List He.DefD := [d_consists_of, d_is_name, d_is_kind, d_size_of, d_bag, d_take, d_name_ok, d_kind_ok, d_whole, d_string, d_law]
def fa : List He.Fa := [.str "LOWER" "abcdefghijklmnopqrstuvwxyz", .str "FIGURES" "0123456789", .str "NAME_SIGNS" "abcdefghijklmnopqrstuvwxyz0123456789", .int "MOST_SIGNS" 8, .int "MOST_LETTERS" 6, .int "MOST_SIZE" 4, .glo "consists_of", .glo "is_name", .glo "is_kind", .glo "size_of", .glo "_law_bag", .glo "_law_take", .glo "_law_name_ok", .glo "_law_kind_ok", .glo "_law_whole", .glo "_law_string", .glo "law", .free "all", .free "int", .free "range", .free "abs", .free "isinstance", .free "max", .free "str", .free "len", .free "bool", .free "min"]
def loose : List PySem.Str := ["LOWER", "FIGURES", "NAME_SIGNS", "MOST_SIGNS", "MOST_LETTERS", "MOST_SIZE", "consists_of", "is_name", "is_kind", "size_of", "_law_bag", "_law_take", "_law_name_ok", "_law_kind_ok", "_law_whole", "_law_string"]
abbrev R : PySem.W.OpenRow := PySem.W.OpenLaw.row PySem.Challenge.rw_lastkind_k01_names_and_kinds
abbrev hk : PySem.W.Hook := He.hookD 4 fa fn
def ob (s : PySem.W.SharedT) : He.AlD := He.obsDG 4 fa fn (HandSHeadRun.getT s)
theorem ob_eq (s : PySem.W.SharedT) : ob s = hk.obs s.abs := He.obsDG_eq (HandSHeadRun.getT_eq s)
theorem run (w : World) : HandSHeadRun.RunEq R (PySem.W.view R.prog [18]) hk ob 4000 loose w := by
  intro os
  kernel_rfl
theorem tx_of {K : PySem.W.Frag} {h : Heap} {mg : Str → Option Value} (X : K.In h) (G : h.Ns mainGlobals mg) (c : He.SaysD fa fn K) : Tx K mg where
  c_LOWER := He.str_ok X G (c.fact 0 (f := .str "LOWER" "abcdefghijklmnopqrstuvwxyz") rfl)
  c_FIGURES := He.str_ok X G (c.fact 1 (f := .str "FIGURES" "0123456789") rfl)
  c_NAME_SIGNS := He.str_ok X G (c.fact 2 (f := .str "NAME_SIGNS" "abcdefghijklmnopqrstuvwxyz0123456789") rfl)
  c_MOST_SIGNS := He.int_ok X G (c.fact 3 (f := .int "MOST_SIGNS" 8) rfl)
  c_MOST_LETTERS := He.int_ok X G (c.fact 4 (f := .int "MOST_LETTERS" 6) rfl)
  c_MOST_SIZE := He.int_ok X G (c.fact 5 (f := .int "MOST_SIZE" 4) rfl)
  f_consists_of := ⟨c.def_ 0 (d := d_consists_of) rfl, He.glo_ok X G (c.fact 6 (f := .glo "consists_of") rfl)⟩
  f_is_name := ⟨c.def_ 1 (d := d_is_name) rfl, He.glo_ok X G (c.fact 7 (f := .glo "is_name") rfl)⟩
  f_is_kind := ⟨c.def_ 2 (d := d_is_kind) rfl, He.glo_ok X G (c.fact 8 (f := .glo "is_kind") rfl)⟩
  f_size_of := ⟨c.def_ 3 (d := d_size_of) rfl, He.glo_ok X G (c.fact 9 (f := .glo "size_of") rfl)⟩
  f_bag := ⟨c.def_ 4 (d := d_bag) rfl, He.glo_ok X G (c.fact 10 (f := .glo "_law_bag") rfl)⟩
  f_take := ⟨c.def_ 5 (d := d_take) rfl, He.glo_ok X G (c.fact 11 (f := .glo "_law_take") rfl)⟩
  f_name_ok := ⟨c.def_ 6 (d := d_name_ok) rfl, He.glo_ok X G (c.fact 12 (f := .glo "_law_name_ok") rfl)⟩
  f_kind_ok := ⟨c.def_ 7 (d := d_kind_ok) rfl, He.glo_ok X G (c.fact 13 (f := .glo "_law_kind_ok") rfl)⟩
  f_whole := ⟨c.def_ 8 (d := d_whole) rfl, He.glo_ok X G (c.fact 14 (f := .glo "_law_whole") rfl)⟩
  f_string := ⟨c.def_ 9 (d := d_string) rfl, He.glo_ok X G (c.fact 15 (f := .glo "_law_string") rfl)⟩
  f_law := ⟨c.def_ 10 (d := d_law) rfl, He.glo_ok X G (c.fact 16 (f := .glo "law") rfl)⟩
  b_all := He.free_ok X G (c.fact 17 (f := .free "all") rfl)
  b_int := He.free_ok X G (c.fact 18 (f := .free "int") rfl)
  b_range := He.free_ok X G (c.fact 19 (f := .free "range") rfl)
  b_abs := He.free_ok X G (c.fact 20 (f := .free "abs") rfl)
  b_isinstance := He.free_ok X G (c.fact 21 (f := .free "isinstance") rfl)
  b_max := He.free_ok X G (c.fact 22 (f := .free "max") rfl)
  b_str := He.free_ok X G (c.fact 23 (f := .free "str") rfl)
  b_len := He.free_ok X G (c.fact 24 (f := .free "len") rfl)
  b_bool := He.free_ok X G (c.fact 25 (f := .free "bool") rfl)
  b_min := He.free_ok X G (c.fact 26 (f := .free "min") rfl)
theorem facts {P : Program} {w : World} {K : PySem.W.Frag} {h : Heap} {mg : Str → Option Value} {f : Addr} (X : K.In h) (G : h.Ns mainGlobals mg) (hfa : mg ("law" : Str) = some (.ref f)) (c : He.SaysD fa fn K) :
    ∃ fd : FuncData, (∀ (s : Shared) (v : Value), BindsTo s fd ⟨[v], []⟩ [("_law_script", v)]) ∧ ∀ base : Heap, K.In base → base.Ns mainGlobals mg → FnOk P w K mg base CX0 3 f fd ["_law_script"] (Fsp (rLaw K)) := by
  have T := tx_of X G c
  obtain ⟨⟨fd, Fu⟩, e1⟩ := T.f_law
  have e := hfa.symm.trans e1
  cases e
  have b := FunD.bindsA (ps := ["_law_script"]) Fu bi_law
  refine ⟨fd, fun s v => b s [v] rfl, fun base _ _ => ?_⟩
  obtain ⟨fd', h1, h2, h3, h4, oc', od', osl', lk'⟩ := ok_law (P := P) (w := w) (base := base) T
  obtain ⟨oc, od, _, _, _, _, _, _, _, osl, _, lk, _⟩ := Fu.ex
  rw [lk] at lk'
  cases lk'
  exact h1
end K01
open PySem PySem.W PySem.Calls PyProof.Rows
theorem PySem.Challenge.cw_lastkind_k01_names_and_kinds_holds : PySem.Challenge.rw_lastkind_k01_names_and_kinds.Holds := by
  w_on; o_law
  refine HandSHeadRun.head_any (r := OpenLaw.row PySem.Challenge.rw_lastkind_k01_names_and_kinds) (q := view (OpenLaw.row PySem.Challenge.rw_lastkind_k01_names_and_kinds).prog [18]) (H := K01.hk) (ob := K01.ob) (M := 4000) (loose := K01.loose) (d := HandSHeadRun.topDef (OpenLaw.row PySem.Challenge.rw_lastkind_k01_names_and_kinds).prog 18) (kwd := []) K01.ob_eq
    (by kernel_rfl) (fun s => by kernel_rfl) K01.run (by kernel_rfl) (by kernel_rfl) (by kernel_rfl) (by rfl) (by first | assumption | decide +kernel) (by decide +kernel) ⟨rfl, rfl, rfl, rfl, rfl, by decide +kernel⟩ ?hw ?hc
  case hw => w_witness2
  case hc =>
    refine L2.walk_ofE (l := PySem.Challenge.rw_lastkind_k01_names_and_kinds) (n := 63) (k := 3) (x := "_law_script") (CX := L2.CX0) rfl (by decide) (by kernel_rfl) ⟨rfl, by decide, by decide⟩ ?F (fun _ _ _ _ z => z)
    intro w mg fa h Y G hmg0
    obtain ⟨K, KX, c⟩ := Y
    have hmg : mg ("law" : PySem.Str) = some (.ref fa) := by
      have e : (HandSHeadRun.topDef (OpenLaw.row PySem.Challenge.rw_lastkind_k01_names_and_kinds).prog 18).name = ("law" : PySem.Str) := by kernel_rfl
      rw [← e]
      exact hmg0
    obtain ⟨fd, hb, hF⟩ := K01.facts (P := (PySem.Challenge.rw_lastkind_k01_names_and_kinds).prog) (w := w) KX G hmg c
    exact ⟨K, fd, Lk.Fsp (K01.rLaw K), KX, hb, fun H a ns hl _ hS => ⟨H, [Lk.scr K ns], _, L2.Same.refl H, .cons ⟨a, rfl, hS⟩ .nil, ⟨ns, rfl, hl, rfl⟩, fun T v F' H' e pv _ => by subst e; exact Lk.rp_bl pv⟩, hF⟩


