import PyProof.Rows.All
import Wide.All
import OpenK.AllK
import Wide.FinOn
import HandS.ForMost
import HandS.ForExc
import HandS.Flow
import HandS.IsInst
import HandS.Defaults
import HandS.Steps
import HandS.Style
import HandS.Head0
import HandS.Lambda
import HandS.ExcInit
import HandS.Head1
import HandS.Head2
import HandS.HeadHook1
import HandS.HeadHook2
import HandS.HeadEnd
import HandS.More
import KE.KeyNested
import PyProof.DictMoreH
import HandS.Deep
import HandS.TupAny
import HandS.Zip
import HandS.Rev
import KE.GoesEnum
import HandS.Spec
import HandS.SetKeys
import HandS.CallSlots
import HandS.Ends
import HandS.HeadHook3
import HandS.HeadHook4
import PyProof.ReprRoads
import PyProof.ReprLen
import PyProof.StrLawsRepr
import PyProof.FitsInt
import HandS.CallLocal
import HandS.Text
import HandS.FStr
import KE.KUnpack
import PyProof.RulesMatchSeq
import PyProof.Rows.MatchSeqLen
import PyProof.InstNe
import HandS.ClsMeth
import HandS.TryOnly
import HandS.HeadNt
import HandS.RaiseMore
import HandS.Property
import HandS.MakeKwOnly
import HandS.NamedTupGet
import HandS.SortInts
import HandS.DictComp
import HandS.WordsDict
import HandS.Conv
import KE.KExcIs
import KE.KIsAll
import HandS.ExcField
import HandS.ExcIs
import HandS.Nested
import KE.KExcSuper
import KE.KExcInit
import PyProof.ExcBaseAll.IndexError
import KE.KSuper
import HandS.ExcValue
import PySem.Challenge.RW_lastkind_k08_errors_made
set_option Elab.async false
set_option linter.all false
set_option maxRecDepth 100000
set_option maxHeartbeats 0
namespace Z
open PySem PySem.Spec PyProof.Rows L2

/-- what does not change through a law's run: the written part, the program, the world -/
structure Fr where
  K : PySem.W.Frag
  pg : Program
  w : World
/-! ### the weakest readings -/
def ED (X : Cx) (e : Expr) : TE := fun σ H Q => ∀ (pins : List (Addr × Obj)) (s : Shared), Inv X pins σ H s → wpAny (model X.prog X.w) X.A (eval e X.env) (EP X pins σ Q) X.xe s
def TD (X : Cx) (e : Expr) : TT := fun σ H Q => ∀ (pins : List (Addr × Obj)) (s : Shared), Inv X pins σ H s → wpAny (model X.prog X.w) X.A (isTrue e X.env (eval e X.env)) (TP X pins σ Q) X.xe s
def WD (X : Cx) (e : Expr) : TT := fun σ H Q => ∀ (whole : Sem Value) (pins : List (Addr × Obj)) (s : Shared), Inv X pins σ H s → wpAny (model X.prog X.w) X.A (isTrue e X.env whole) (TP X pins σ Q) X.xe s
def AD (X : Cx) (es : List Expr) : TA := fun σ H Q => ∀ (pos : Pos) (pins : List (Addr × Obj)) (s : Shared), Inv X pins σ H s → wpAny (model X.prog X.w) X.A (spliced (backTo pos (starEach es X.env))) (AP X pins σ Q) X.xe s
def SD1 (X : Cx) (st : Stmt) : TS := fun D σ H => ∀ (pins : List (Addr × Obj)) (s : Shared), Inv X pins σ H s → wpAny (model X.prog X.w) X.A (exec st X.env) (SP X pins D) X.xe s
def SD (X : Cx) (ss : List Stmt) : TS := fun D σ H => ∀ (pins : List (Addr × Obj)) (s : Shared), Inv X pins σ H s → wpAny (model X.prog X.w) X.A (execs ss X.env) (SP X pins D) X.xe s
section
variable {X : Cx} {e : Expr} {es : List Expr} {st : Stmt} {ss : List Stmt} {σ : L2.St} {H : Hp}
theorem pe_d : PE X e (ED X e) := ⟨fun pins s _ _ _ I h => h pins s I⟩
theorem pt_d : PT X e (TD X e) := ⟨fun pins s _ _ _ I h => h pins s I⟩
theorem pw_d : PW X e (WD X e) := ⟨fun whole pins s _ _ _ I h => h whole pins s I⟩
theorem pa_d : PA X es (AD X es) := ⟨fun pos pins s _ _ _ I h => h pos pins s I⟩
theorem ps_d : PS X st (SD1 X st) := ⟨fun pins s _ _ _ I h => h pins s I⟩
theorem pss_d : PSs X ss (SD X ss) := ⟨fun pins s _ _ _ I h => h pins s I⟩
theorem ED.of {t : TE} {Q : VK} (h : PE X e t) (q : t σ H Q) : ED X e σ H Q := fun pins s I => h.run pins s σ H Q I q
theorem TD.of {t : TT} {Q : Bool → Hp → Prop} (h : PT X e t) (q : t σ H Q) : TD X e σ H Q := fun pins s I => h.run pins s σ H Q I q
theorem WD.of {t : TT} {Q : Bool → Hp → Prop} (h : PW X e t) (q : t σ H Q) : WD X e σ H Q := fun whole pins s I => h.run whole pins s σ H Q I q
theorem AD.of {t : TA} {Q : List V → Hp → Prop} (h : PA X es t) (q : t σ H Q) : AD X es σ H Q := fun pos pins s I => h.run pos pins s σ H Q I q
theorem SD1.of {t : TS} {D : Ends} (h : PS X st t) (q : t D σ H) : SD1 X st D σ H := fun pins s I => h.run pins s σ H D I q
theorem SD.of {t : TS} {D : Ends} (h : PSs X ss t) (q : t D σ H) : SD X ss D σ H := fun pins s I => h.run pins s σ H D I q
end

/-! ### values: P stands still, ref is a live object of the store -/
inductive P where
  | non
  | bl (b : Bool)
  | int (i : Int)
  | str (z : Str)
  | tup (ps : List P)
  | lst (ps : List P)
  | dic (t : Bool) (ks ps : List P)
  | ins (c : Str) (ks : List Str) (ps : List P)
  | glo (x : Str)
  | ty (n : String)
  | scr (ns : List Int)
  /-- an own exception, made and not raised -/
  | exv (c : Str) (ks : List Str) (ps : List P)
instance : Inhabited P := ⟨.non⟩
inductive D where
  | p (p : P)
  | ref (n : Nat)
instance : Inhabited D := ⟨.p .non⟩
inductive Cell where
  | lst (ds : List D)
  | dic (t : Bool) (ks : List P) (ds : List D)
  | ins (c : Str) (ks : List Str) (ds : List D)
  | dead
  /-- the table of code objects that the def of this name makes -/
  | tab (x : Str)
abbrev Store := List Cell
abbrev Slots := List (Option D)
structure Xc where
  c : Str
  ks : List Str
  ps : List P
inductive Rs (α : Type) where
  | ok (a : α) (S : Store)
  | exc (x : Xc) (S : Store)
  | no
def Rs.bind {α β : Type} : Rs α → (α → Store → Rs β) → Rs β
  | .ok a S, f => f a S
  | .exc x S, _ => .exc x S
  | .no, _ => .no
mutual
/-- a key of any depth -/
def nkP : P → Option NestedKey
  | .non => some .none
  | .int i => some (.num i)
  | .str z => some (.text z)
  | .tup ps => (nkAll ps).map .tup
  | _ => none
def nkAll : List P → Option (List NestedKey)
  | [] => some []
  | p :: ps => match nkP p, nkAll ps with
    | some k, some ks => some (k :: ks)
    | _, _ => none
end
/-- a dict whose keys are tuples, nested, of ints, texts and None -/
def DNok (pg : Program) (w : World) (a : Addr) (kvs : List (NestedKey × Addr × V)) (h : Heap) : Prop :=
  kvs.length ≤ sizeLine ∧ (a == sysModules) = false ∧ ∃ xs : List (NestedKey × Addr × Value), Paired (fun (p : NestedKey × Addr × V) (q : NestedKey × Addr × Value) => p.1 = q.1 ∧ p.2.1 = q.2.1 ∧ RelV p.2.2 q.2.2) kvs xs ∧
    ∃ o es ep, h.get? a = some o ∧ o.ExactDict ∧ o.data = .dict es ep ∧ es.toList = xs.map (entryOfKey (nestedKind pg w)) ∧ (xs.map (·.1)).Nodup
def dN (pg : Program) (w : World) (a : Addr) (kvs : List (NestedKey × Addr × V)) : HO := .ext (DNok pg w a kvs)
def keyP : Key → P
  | .inl i => .int i
  | .inr x => .str x
theorem same_sqT {K : Fr} {H H' : Hp} {a : Addr} {xs : List V} (e : Same H H') (h : SqT K.K H a xs) : SqT K.K H' a xs := by
  rcases h with (h | ⟨o, h⟩) | h
  · exact .inl (.inl (e _ _ h))
  · exact .inl (.inr ⟨o, e _ _ h⟩)
  · exact .inr h
theorem same_sqL {K : Fr} {H H' : Hp} {a : Addr} {xs : List V} (e : Same H H') (h : SqL K.K H a xs) : SqL K.K H' a xs := by
  rcases h with (h | ⟨o, h⟩) | h
  · exact .inl (.inl (e _ _ h))
  · exact .inl (.inr ⟨o, e _ _ h⟩)
  · exact .inr h
/-- tuples that may be written at the top: () and those of defs -/
def wr : List P → Bool
  | [] => true
  | .glo _ :: _ => true
  | _ => false
mutual
inductive Rp (K : Fr) (F : Hp) : V → P → Prop
  | non : Rp K F .non .non
  | bl (b : Bool) : Rp K F (.bl b) (.bl b)
  | int (i : Int) : Rp K F (.int i) (.int i)
  | str (x : Str) : Rp K F (.str x) (.str x)
  | lst {a : Addr} {xs : List V} {ps : List P} : F a = some (.lst xs) → RpAll K F xs ps → Rp K F (.ref a) (.lst ps)
  | tup {a : Addr} {xs : List V} {ps : List P} : F a = some (.tup xs) → RpAll K F xs ps → Rp K F (.ref a) (.tup ps)
  | tupW {a : Addr} {xs : List V} {ps : List P} : SqT K.K F a xs → RpAll K F xs ps → wr ps = true → Rp K F (.ref a) (.tup ps)
  | dicK {a : Addr} {kvs : List (Key × V)} {ks ps : List P} : F a = some (.dK kvs) → ks = kvs.map (fun q => keyP q.1) → RpAll K F (kvs.map (·.2)) ps → Rp K F (.ref a) (.dic false ks ps)
  | dicN {a : Addr} {kvs : List (NestedKey × Addr × V)} {ks ps : List P} : F a = some (dN K.pg K.w a kvs) → RpAll K F (kvs.map fun q => .ref q.2.1) ks → ks.map nkP = kvs.map (fun q => some q.1) → (∀ q ∈ kvs, q.1.depth ≤ 8) → RpAll K F (kvs.map (·.2.2)) ps → Rp K F (.ref a) (.dic true ks ps)
  | ins {a dx : Addr} {c : Str} {fs : List (Str × V)} {ks : List Str} {ps : List P} : F a = some (.ins (He.ga K.K c) dx fs) → F dx = some (.own a) → ks = fs.map (·.1) → RpAll K F (fs.map (·.2)) ps → Rp K F (.ref a) (.ins c ks ps)
  | glo (x : Str) : Rp K F (.ref (He.ga K.K x)) (.glo x)
  | ty (n : String) : Rp K F (.ty n) (.ty n)
  | scr {a : Addr} {ns : List Int} : SqL K.K F a (ns.map V.int) → Rp K F (.ref a) (.scr ns)
  | exv {a d : Addr} {c : Str} {fs : List (Str × V)} {ks : List Str} {ps : List P} : F a = some (exo a (He.ga K.K c) (some d)) → F d = some (exd d fs) → ks = fs.map (·.1) → RpAll K F (fs.map (·.2)) ps → Rp K F (.ref a) (.exv c ks ps)
  | exv0 {a : Addr} {c : Str} : F a = some (exo a (He.ga K.K c) none) → Rp K F (.ref a) (.exv c [] [])
inductive RpAll (K : Fr) (F : Hp) : List V → List P → Prop
  | nil : RpAll K F [] []
  | cons {v : V} {vs : List V} {d : P} {ds : List P} : Rp K F v d → RpAll K F vs ds → RpAll K F (v :: vs) (d :: ds)
end
section
variable {K : Fr} {F F' : Hp}
mutual
theorem Rp.mono (e : Same F F') : ∀ (d : P) (v : V), Rp K F v d → Rp K F' v d
  | .non, _, h => by cases h; exact .non
  | .bl b, _, h => by cases h; exact .bl b
  | .int i, _, h => by cases h; exact .int i
  | .str x, _, h => by cases h; exact .str x
  | .lst ds, _, h => by
    cases h with
    | lst hs ha => exact .lst (e _ _ hs) (RpAll.mono e ds _ ha)
  | .tup ds, _, h => by
    cases h with
    | tup hs ha => exact .tup (e _ _ hs) (RpAll.mono e ds _ ha)
    | tupW hs ha hw => exact .tupW (same_sqT e hs) (RpAll.mono e ds _ ha) hw
  | .dic _ ks ds, _, h => by
    cases h with
    | dicK hs hk ha => exact .dicK (e _ _ hs) hk (RpAll.mono e ds _ ha)
    | dicN hs h1 h2 h3 ha => exact .dicN (e _ _ hs) (RpAll.mono e ks _ h1) h2 h3 (RpAll.mono e ds _ ha)
  | .ins c ks ds, _, h => by
    cases h with
    | ins hs ho hk ha => exact .ins (e _ _ hs) (e _ _ ho) hk (RpAll.mono e ds _ ha)
  | .glo x, _, h => by cases h; exact .glo x
  | .ty x, _, h => by cases h; exact .ty x
  | .scr ns, _, h => by
    cases h with
    | scr hs => exact .scr (same_sqL e hs)
  | .exv c ks ds, _, h => by
    cases h with
    | exv hs ho hk ha => exact .exv (e _ _ hs) (e _ _ ho) hk (RpAll.mono e ds _ ha)
    | exv0 hs => exact .exv0 (e _ _ hs)
theorem RpAll.mono (e : Same F F') : ∀ (ds : List P) (vs : List V), RpAll K F vs ds → RpAll K F' vs ds
  | [], _, h => by cases h; exact .nil
  | d :: ds, _, h => by
    cases h with
    | cons h1 h2 => exact .cons (Rp.mono e d _ h1) (RpAll.mono e ds _ h2)
end
theorem RpAll.length : ∀ {ds : List P} {vs : List V}, RpAll K F vs ds → vs.length = ds.length
  | [], _, h => by cases h; rfl
  | d :: ds, _, h => by
    cases h with
    | cons h1 h2 => rw [List.length_cons, List.length_cons, RpAll.length h2]
theorem RpAll.get : ∀ {ds : List P} {vs : List V} {i : Nat} {v : V}, RpAll K F vs ds → vs[i]? = some v → ∃ d, ds[i]? = some d ∧ Rp K F v d
  | [], _, _, _, h, e => by cases h; simp at e
  | d :: ds, _, 0, _, h, e => by
    cases h with
    | cons h1 h2 =>
      simp at e
      subst e
      exact ⟨d, rfl, h1⟩
  | d :: ds, _, i + 1, v, h, e => by
    cases h with
    | cons h1 h2 =>
      obtain ⟨d', e1, e2⟩ := RpAll.get (i := i) (v := v) h2 (by simpa using e)
      exact ⟨d', by simpa using e1, e2⟩
theorem RpAll.get' : ∀ {ds : List P} {vs : List V} {i : Nat} {d : P}, RpAll K F vs ds → ds[i]? = some d → ∃ v, vs[i]? = some v ∧ Rp K F v d
  | [], _, _, _, h, e => by simp at e
  | d :: ds, _, 0, _, h, e => by
    cases h with
    | cons h1 h2 =>
      simp at e
      subst e
      exact ⟨_, rfl, h1⟩
  | d :: ds, _, i + 1, v, h, e => by
    cases h with
    | cons h1 h2 =>
      obtain ⟨d', e1, e2⟩ := RpAll.get' (i := i) (d := v) h2 (by simpa using e)
      exact ⟨d', by simpa using e1, e2⟩
theorem RpAll.append : ∀ {ds es : List P} {vs ws : List V}, RpAll K F vs ds → RpAll K F ws es → RpAll K F (vs ++ ws) (ds ++ es)
  | [], _, _, _, h, h' => by cases h; exact h'
  | d :: ds, _, _, _, h, h' => by
    cases h with
    | cons h1 h2 => exact .cons h1 (RpAll.append h2 h')
theorem RpAll.take : ∀ (n : Nat) {ds : List P} {vs : List V}, RpAll K F vs ds → RpAll K F (vs.take n) (ds.take n)
  | 0, _, _, _ => by rw [List.take_zero, List.take_zero]; exact .nil
  | n + 1, [], _, h => by cases h; exact .nil
  | n + 1, d :: ds, _, h => by
    cases h with
    | cons h1 h2 => exact .cons h1 (RpAll.take n h2)
theorem RpAll.drop : ∀ (n : Nat) {ds : List P} {vs : List V}, RpAll K F vs ds → RpAll K F (vs.drop n) (ds.drop n)
  | 0, _, _, h => h
  | n + 1, [], _, h => by cases h; exact .nil
  | n + 1, d :: ds, _, h => by
    cases h with
    | cons h1 h2 => exact RpAll.drop n h2
theorem RpAll.rev {ds : List P} {vs : List V} (h : RpAll K F vs ds) : RpAll K F vs.reverse ds.reverse := by
  induction ds generalizing vs with
  | nil => cases h; exact .nil
  | cons d ds ih =>
    cases h with
    | cons h1 h2 =>
      rw [List.reverse_cons, List.reverse_cons]
      exact (ih h2).append (.cons h1 .nil)
end

/-! ### growing: F the part that is known and stays, H the heap -/
structure Grow (F H F' H' : Hp) : Prop where
  sF : Same F F'
  sH : Same H H'
  sub : Same F' H'
  fr : ∀ a, F a = none → H a ≠ none → F' a = none
theorem Grow.refl {F H : Hp} (s : Same F H) : Grow F H F H := ⟨Same.refl _, Same.refl _, s, fun _ h _ => h⟩
theorem some_same {H H' : Hp} {a : Addr} (e : Same H H') (h : H a ≠ none) : H' a ≠ none := by
  cases q : H a with
  | none => exact absurd q h
  | some o => rw [e a o q]; exact fun z => nomatch z
theorem Grow.trans {F H F1 H1 F2 H2 : Hp} (a : Grow F H F1 H1) (b : Grow F1 H1 F2 H2) : Grow F H F2 H2 :=
  ⟨a.sF.trans b.sF, a.sH.trans b.sH, b.sub, fun x h1 h2 => b.fr x (a.fr x h1 h2) (some_same a.sH h2)⟩
/-- a new object, known from now on -/
theorem Grow.new {F H : Hp} {p : Addr} {o : HO} (s : Same F H) (n : H p = none) : Grow F H (upd F p o) (upd H p o) := by
  have nF : F p = none := s.free n
  refine ⟨fun a x e => ?_, fun a x e => ?_, fun a x e => ?_, fun a h1 h2 => ?_⟩
  · rw [upd_ne (ne_of_none e nF)]; exact e
  · rw [upd_ne (ne_of_none e n)]; exact e
  · by_cases h : a = p
    · subst h; rw [upd_same] at e ⊢; exact e
    · rw [upd_ne h] at e ⊢; exact s _ _ e
  · have h : a ≠ p := fun z => h2 (by rw [z]; exact n)
    rw [upd_ne h]; exact h1
/-- a new object of which nothing is known -/
theorem Grow.own {F H : Hp} {p : Addr} {o : HO} (s : Same F H) (n : H p = none) : Grow F H F (upd H p o) :=
  ⟨Same.refl _, fun a x e => by rw [upd_ne (ne_of_none e n)]; exact e, fun a x e => by rw [upd_ne (ne_of_none (s _ _ e) n)]; exact s _ _ e, fun _ h _ => h⟩
theorem Same.upd_new {H : Hp} {p : Addr} {o : HO} (n : H p = none) : Same H (upd H p o) := fun a x e => by
  rw [upd_ne (ne_of_none e n)]; exact e

/-! ### values with live objects -/
def RelD (K : Fr) (F : Hp) (R : List Addr) (v : V) : D → Prop
  | .p p => Rp K F v p
  | .ref n => ∃ a, R[n]? = some a ∧ v = .ref a
abbrev RelAll (K : Fr) (F : Hp) (R : List Addr) : List V → List D → Prop := Paired fun v d => RelD K F R v d
theorem pre_get {R R' : List Addr} (e : R <+: R') {n : Nat} {a : Addr} (h : R[n]? = some a) : R'[n]? = some a := by
  obtain ⟨t, rfl⟩ := e
  rw [List.getElem?_append_left (List.getElem?_eq_some_iff.mp h).1]; exact h
theorem pre_refl {R : List Addr} : R <+: R := ⟨[], List.append_nil R⟩
theorem pre_trans {R R' R'' : List Addr} (e : R <+: R') (e' : R' <+: R'') : R <+: R'' := by
  obtain ⟨t, rfl⟩ := e
  obtain ⟨u, rfl⟩ := e'
  exact ⟨t ++ u, by rw [List.append_assoc]⟩
theorem pre_app {R t : List Addr} : R <+: R ++ t := ⟨t, rfl⟩
section
variable {K : Fr} {F F' : Hp} {R R' : List Addr}
theorem RelD.mono {v : V} {d : D} (e : Same F F') (eR : R <+: R') (h : RelD K F R v d) : RelD K F' R' v d := by
  cases d with
  | p p => exact Rp.mono e _ _ h
  | ref n => obtain ⟨a, h1, h2⟩ := h; exact ⟨a, pre_get eR h1, h2⟩
theorem RelAll.mono (e : Same F F') (eR : R <+: R') : ∀ {vs : List V} {ds : List D}, RelAll K F R vs ds → RelAll K F' R' vs ds
  | _, _, .nil => .nil
  | _, _, .cons h t => .cons (RelD.mono e eR h) (RelAll.mono e eR t)
theorem RelAll.length : ∀ {vs : List V} {ds : List D}, RelAll K F R vs ds → vs.length = ds.length
  | _, _, .nil => rfl
  | _, _, .cons _ t => by rw [List.length_cons, List.length_cons, RelAll.length t]
theorem RelAll.get' : ∀ {vs : List V} {ds : List D} {i : Nat} {d : D}, RelAll K F R vs ds → ds[i]? = some d → ∃ v, vs[i]? = some v ∧ RelD K F R v d
  | _, _, _, _, .nil, e => by simp at e
  | _, _, 0, _, .cons h t, e => by simp at e; subst e; exact ⟨_, rfl, h⟩
  | _, _, i + 1, d, .cons h t, e => by
    obtain ⟨v, e1, e2⟩ := RelAll.get' (i := i) (d := d) t (by simpa using e)
    exact ⟨v, by simpa using e1, e2⟩
theorem RelAll.append : ∀ {vs ws : List V} {ds es : List D}, RelAll K F R vs ds → RelAll K F R ws es → RelAll K F R (vs ++ ws) (ds ++ es)
  | _, _, _, _, .nil, h => h
  | _, _, _, _, .cons h t, h' => .cons h (RelAll.append t h')
theorem RelAll.set {v : V} {d : D} (h : RelD K F R v d) : ∀ {vs : List V} {ds : List D} (i : Nat), RelAll K F R vs ds → RelAll K F R (vs.set i v) (ds.set i d)
  | _, _, _, .nil => .nil
  | _, _, 0, .cons _ t => .cons h t
  | _, _, i + 1, .cons q t => .cons q (RelAll.set h i t)
theorem RelAll.of_p : ∀ {vs : List V} {ps : List P}, RpAll K F vs ps → RelAll K F R vs (ps.map .p)
  | _, [], h => by cases h; exact .nil
  | _, p :: ps, h => by
    cases h with
    | cons h1 h2 => exact .cons h1 (RelAll.of_p h2)
theorem RelAll.to_p : ∀ {vs : List V} {ps : List P}, RelAll K F R vs (ps.map .p) → RpAll K F vs ps
  | _, [], h => by cases h; exact .nil
  | _, p :: ps, h => by
    cases h with
    | cons h1 h2 => exact .cons h1 (RelAll.to_p h2)
end

/-! ### the store in the heap -/
def nil : Hp := fun _ => none
def one (l : Addr) (o : HO) : Hp := fun a => if a = l then some o else none
def two (l : Addr) (o : HO) (m : Addr) (u : HO) : Hp := fun a => if a = l then some o else if a = m then some u else none
theorem one_same {l : Addr} {o : HO} : one l o l = some o := if_pos rfl
theorem one_some {l a : Addr} {o u : HO} (h : one l o a = some u) : a = l ∧ o = u := by
  unfold one at h
  split at h
  · rename_i e; cases h; exact ⟨e, rfl⟩
  · cases h
theorem two_fst {l m : Addr} {o u : HO} : two l o m u l = some o := if_pos rfl
theorem two_snd {l m : Addr} {o u : HO} (h : m ≠ l) : two l o m u m = some u := by unfold two; rw [if_neg h, if_pos rfl]
theorem two_some {l m a : Addr} {o u x : HO} (h : two l o m u a = some x) : (a = l ∧ x = o) ∨ (a = m ∧ x = u) := by
  unfold two at h
  split at h
  · rename_i e; cases h; exact .inl ⟨e, rfl⟩
  · split at h
    · rename_i e; cases h; exact .inr ⟨e, rfl⟩
    · cases h
/-- the code of the def of the name x, its address, its table -/
def codeV (K : PySem.W.Frag) (x : Str) : Value := match K.lookup (He.ga K x) with
  | some ⟨_, _, .func fd, _⟩ => fd.code
  | _ => .none
def codeA (K : PySem.W.Frag) (x : Str) : Addr := match codeV K x with
  | .ref c => c
  | _ => 0
def tabA (K : PySem.W.Frag) (x : Str) : Addr := match K.lookup (codeA K x) with
  | some ⟨_, _, .fields vs, _⟩ => (match (vs[11]? : Option Value) with
    | some (.ref P) => P
    | _ => 0)
  | _ => 0
/-- what the lambdas of the def x are named -/
def lamN (x : Str) : Str := (x ++ ".<locals>.") ++ "<lambda>"
inductive CellOk (K : Fr) (F : Hp) (R : List Addr) (a : Addr) : Hp → Cell → Prop
  | lst {vs : List V} {ds : List D} : RelAll K F R vs ds → CellOk K F R a (one a (.lst vs)) (.lst ds)
  | dicK {kvs : List (Key × V)} {ks : List P} {ds : List D} : ks = kvs.map (fun q => keyP q.1) → RelAll K F R (kvs.map (·.2)) ds → CellOk K F R a (one a (.dK kvs)) (.dic false ks ds)
  | dicN {kvs : List (NestedKey × Addr × V)} {ks : List P} {ds : List D} : RpAll K F (kvs.map fun q => .ref q.2.1) ks → ks.map nkP = kvs.map (fun q => some q.1) → (∀ q ∈ kvs, q.1.depth ≤ 8) → RelAll K F R (kvs.map (·.2.2)) ds → CellOk K F R a (one a (dN K.pg K.w a kvs)) (.dic true ks ds)
  | ins {dx : Addr} {c : Str} {fs : List (Str × V)} {ks : List Str} {ds : List D} : dx ≠ a → ks = fs.map (·.1) → RelAll K F R (fs.map (·.2)) ds → CellOk K F R a (two a (.ins (He.ga K.K c) dx fs) dx (.own a)) (.ins c ks ds)
  | dead : CellOk K F R a nil .dead
  | tab {x : Str} {ps : Array Value} : a = tabA K.K x → TriplesOk ps.toList → (∀ pos cv, codeAmong pos ps.toList = some cv → ∃ c, cv = .ref c ∧ F c = some (LamX.CodeO c (lamN x))) → CellOk K F R a (one a (.tbl ps)) (.tab x)
theorem CellOk.mono {K : Fr} {F F' : Hp} {R R' : List Addr} {a : Addr} {pc : Hp} {c : Cell} (e : Same F F') (eR : R <+: R') (h : CellOk K F R a pc c) : CellOk K F' R' a pc c := by
  cases h with
  | lst h => exact .lst (h.mono e eR)
  | dicK hk h => exact .dicK hk (h.mono e eR)
  | dicN h1 h2 h3 h => exact .dicN (RpAll.mono e _ _ h1) h2 h3 (h.mono e eR)
  | ins hd hk h => exact .ins hd hk (h.mono e eR)
  | dead => exact .dead
  | tab h0 h1 h2 => exact .tab h0 h1 fun pos cv z => let ⟨c, e1, e2⟩ := h2 pos cv z; ⟨c, e1, e _ _ e2⟩
structure Rpc (K : Fr) (G F : Hp) (R : List Addr) (S : Store) (H : Hp) (pc : Nat → Hp) : Prop where
  sub : Same F H
  len : R.length = S.length
  ok : ∀ (n : Nat) c, S[n]? = some c → ∃ a, R[n]? = some a ∧ CellOk K F R a (pc n) c
  out : ∀ n a o, pc n a = some o → F a = none ∧ H a = some o
  sep : ∀ n m a, pc n a ≠ none → pc m a ≠ none → n = m
  emp : ∀ n, S.length ≤ n → pc n = nil
  grd : ∀ a o, G a = some o → H a = some o ∧ F a = none ∧ ∀ n, pc n a = none
def Rep (K : Fr) (G F : Hp) (R : List Addr) (S : Store) (H : Hp) : Prop := ∃ pc, Rpc K G F R S H pc
/-- another piece for n -/
def put (pc : Nat → Hp) (i : Nat) (h : Hp) : Nat → Hp := fun j => if j = i then h else pc j
theorem put_same {pc : Nat → Hp} {i : Nat} {h : Hp} : put pc i h i = h := if_pos rfl
theorem put_ne {pc : Nat → Hp} {i j : Nat} {h : Hp} (n : j ≠ i) : put pc i h j = pc j := if_neg n
section
variable {K : Fr} {G F H F' H' : Hp} {R R' : List Addr} {S : Store} {pc : Nat → Hp}
theorem Rep.sub (h : Rep K G F R S H) : Same F H := let ⟨_, h⟩ := h; h.sub
theorem Rep.len (h : Rep K G F R S H) : R.length = S.length := let ⟨_, h⟩ := h; h.len
theorem Rep.grow (h : Rep K G F R S H) (g : Grow F H F' H') : Rep K G F' R S H' := by
  obtain ⟨pc, h⟩ := h
  exact ⟨pc, g.sub, h.len, fun n c e => let ⟨a, e1, e2⟩ := h.ok n c e; ⟨a, e1, e2.mono g.sF pre_refl⟩,
    fun n a o e => let ⟨h1, h2⟩ := h.out n a o e; ⟨g.fr a h1 (by rw [h2]; exact fun z => nomatch z), g.sH _ _ h2⟩, h.sep, h.emp, fun a o e => let ⟨h1, h2, h3⟩ := h.grd a o e; ⟨g.sH _ _ h1, g.fr a h2 (by rw [h1]; exact fun z => nomatch z), h3⟩⟩
theorem Rpc.free (h : Rpc K G F R S H pc) {a : Addr} (n : H a = none) (m : Nat) : pc m a = none := by
  cases q : pc m a with
  | none => rfl
  | some o => rw [(h.out m a o q).2] at n; cases n
theorem get_push {α : Type} {S : List α} {c x : α} {n : Nat} (h : (S ++ [c])[n]? = some x) : S[n]? = some x ∨ (n = S.length ∧ x = c) := by
  by_cases hn : n < S.length
  · rw [List.getElem?_append_left hn] at h; exact .inl h
  · rw [List.getElem?_append_right (by omega)] at h
    cases hk : n - S.length with
    | zero => rw [hk] at h; simp at h; exact .inr ⟨by omega, h.symm⟩
    | succ k => rw [hk] at h; simp at h
/-- a new live object: its piece lies where nothing was -/
theorem Rep.push (h : Rep K G F R S H) {a : Addr} {q : Hp} {c : Cell} (hq : ∀ b o, q b = some o → H b = none) (hc : CellOk K F (R ++ [a]) a q c) (hH : ∀ b, H' b = match q b with | some o => some o | none => H b) : Rep K G F (R ++ [a]) (S ++ [c]) H' := by
  obtain ⟨pc, h⟩ := h
  have hpn : pc S.length = nil := h.emp _ (Nat.le_refl _)
  have old : ∀ b o, H b = some o → H' b = some o := fun b o e => by
    rw [hH]
    cases z : q b with
    | none => exact e
    | some u => rw [hq b u z] at e; cases e
  refine ⟨put pc S.length q, fun b o e => old _ _ (h.sub _ _ e), by rw [List.length_append, List.length_append, h.len]; rfl, fun n c' e => ?_, fun n b o e => ?_, fun n m b e1 e2 => ?_, fun n hn => ?_, fun b o e => ?_⟩
  · rcases get_push e with e | ⟨rfl, rfl⟩
    · obtain ⟨a', e1, e2⟩ := h.ok n c' e
      have hn : n ≠ S.length := fun z => by have := (List.getElem?_eq_some_iff.mp e).1; omega
      exact ⟨a', pre_get pre_app e1, by rw [put_ne hn]; exact e2.mono (Same.refl _) pre_app⟩
    · refine ⟨a, ?_, by rw [put_same]; exact hc⟩
      rw [← h.len, List.getElem?_append_right (Nat.le_refl _), Nat.sub_self]; rfl
  · by_cases hn : n = S.length
    · subst hn
      rw [put_same] at e
      exact ⟨h.sub.free (hq b o e), by rw [hH, e]⟩
    · rw [put_ne hn] at e
      obtain ⟨h1, h2⟩ := h.out n b o e
      exact ⟨h1, old _ _ h2⟩
  · by_cases hn : n = S.length
    · by_cases hm : m = S.length
      · rw [hn, hm]
      · rw [hn, put_same] at e1
        rw [put_ne hm] at e2
        cases z : q b with
        | none => exact absurd z e1
        | some o => exact absurd (h.free (hq b o z) m) e2
    · rw [put_ne hn] at e1
      by_cases hm : m = S.length
      · rw [hm, put_same] at e2
        cases z : q b with
        | none => exact absurd z e2
        | some o => exact absurd (h.free (hq b o z) n) e1
      · rw [put_ne hm] at e2
        exact h.sep n m b e1 e2
  · have hn : S.length + 1 ≤ n := by rw [List.length_append] at hn; exact hn
    rw [put_ne (by omega)]
    exact h.emp n (by omega)
  · obtain ⟨h1, h2, h3⟩ := h.grd b o e
    refine ⟨old _ _ h1, h2, fun n => ?_⟩
    by_cases hn : n = S.length
    · rw [hn, put_same]
      cases z : q b with
      | none => rfl
      | some u => rw [hq b u z] at h1; cases h1
    · rw [put_ne hn]; exact h3 n
theorem Rep.push1 (h : Rep K G F R S H) {a : Addr} {o : HO} {c : Cell} (n : H a = none) (hc : CellOk K F (R ++ [a]) a (one a o) c) : Rep K G F (R ++ [a]) (S ++ [c]) (upd H a o) :=
  h.push (fun b u e => by obtain ⟨rfl, _⟩ := one_some e; exact n) hc fun b => by
    unfold upd one
    by_cases hb : b = a
    · rw [if_pos hb, if_pos hb]
    · rw [if_neg hb, if_neg hb]
/-- what stands at a live object -/
theorem Rep.at (h : Rep K G F R S H) {n : Nat} {c : Cell} (e : S[n]? = some c) : ∃ a q, R[n]? = some a ∧ CellOk K F R a q c ∧ ∀ b o, q b = some o → F b = none ∧ H b = some o := by
  obtain ⟨pc, h⟩ := h
  obtain ⟨a, e1, e2⟩ := h.ok n c e
  exact ⟨a, pc n, e1, e2, fun b o z => h.out n b o z⟩
theorem set_get {α : Type} {l : List α} {i j : Nat} {a b : α} (h : (l.set i a)[j]? = some b) : (j = i ∧ b = a) ∨ (j ≠ i ∧ l[j]? = some b) := by
  by_cases hj : j = i
  · subst hj
    have hl := (List.getElem?_eq_some_iff.mp h).1
    rw [List.length_set] at hl
    rw [List.getElem?_set_self hl] at h
    exact .inl ⟨rfl, (Option.some.inj h).symm⟩
  · rw [List.getElem?_set_ne (Ne.symm hj)] at h
    exact .inr ⟨hj, h⟩
/-- a live object is changed in its place -/
theorem Rep.mut (h : Rep K G F R S H) {n : Nat} {c c' : Cell} {a b : Addr} {q' : Hp → Hp} {o : HO} (e : S[n]? = some c) (ea : R[n]? = some a) (hb : ∀ q, CellOk K F R a q c → (∀ x u, q x = some u → H x = some u) → q b ≠ none ∧ CellOk K F R a (upd q b o) c') : Rep K G F R (S.set n c') (upd H b o) := by
  obtain ⟨pc, h⟩ := h
  obtain ⟨a', e1, e2⟩ := h.ok n c e
  rw [ea] at e1; cases e1
  obtain ⟨nb, hc⟩ := hb _ e2 fun x u z => (h.out n x u z).2
  obtain ⟨ob, hob⟩ : ∃ ob, pc n b = some ob := by
    cases z : pc n b with
    | none => exact absurd z nb
    | some ob => exact ⟨ob, rfl⟩
  obtain ⟨fb, Hb⟩ := h.out n b ob hob
  refine ⟨put pc n (upd (pc n) b o), fun x u z => ?_, by rw [List.length_set]; exact h.len, fun m x z => ?_, fun m x u z => ?_, fun m k x z1 z2 => ?_, fun m hm => ?_, fun x u z => ?_⟩
  · rw [upd_ne (ne_of_none z fb)]; exact h.sub _ _ z
  · rcases set_get z with ⟨rfl, rfl⟩ | ⟨hm, z⟩
    · exact ⟨a, ea, by rw [put_same]; exact hc⟩
    · obtain ⟨a2, z1, z2⟩ := h.ok m x z
      exact ⟨a2, z1, by rw [put_ne hm]; exact z2⟩
  · by_cases hm : m = n
    · subst hm
      rw [put_same] at z
      by_cases hx : x = b
      · subst hx; rw [upd_same] at z; exact ⟨fb, by rw [upd_same]; exact z⟩
      · rw [upd_ne hx] at z
        rw [upd_ne hx]
        exact h.out m x u z
    · rw [put_ne hm] at z
      obtain ⟨z1, z2⟩ := h.out m x u z
      refine ⟨z1, ?_⟩
      rw [upd_ne (fun y => by
        subst y
        exact hm (h.sep m n x (by rw [z]; exact fun y => nomatch y) (by rw [hob]; exact fun y => nomatch y)))]
      exact z2
  · have key : ∀ j, put pc n (upd (pc n) b o) j x ≠ none → pc j x ≠ none := fun j hj => by
      by_cases hjn : j = n
      · subst hjn
        rw [put_same] at hj
        by_cases hx : x = b
        · subst hx; rw [hob]; exact fun y => nomatch y
        · rw [upd_ne hx] at hj; exact hj
      · rw [put_ne hjn] at hj; exact hj
    exact h.sep m k x (key m z1) (key k z2)
  · rw [List.length_set] at hm
    have : n < S.length := (List.getElem?_eq_some_iff.mp e).1
    rw [put_ne (by omega)]
    exact h.emp m hm
  · obtain ⟨z1, z2, z3⟩ := h.grd x u z
    have hx : x ≠ b := fun y => by subst y; rw [z3 n] at hob; cases hob
    refine ⟨by rw [upd_ne hx]; exact z1, z2, fun m => ?_⟩
    by_cases hm : m = n
    · rw [hm, put_same, upd_ne hx]; exact z3 n
    · rw [put_ne hm]; exact z3 m
end
/-! slots -/
/-- what is known besides (of a caught exception) -/
structure Pin where
  P : Hp → List Addr → Prop
  mono : ∀ F F' R R', Same F F' → R <+: R' → P F R → P F' R'
def Pin.nil : Pin := ⟨fun _ _ => True, fun _ _ _ _ _ _ _ => trivial⟩
structure SlR (K : Fr) (px : Pin) (F : Hp) (R : List Addr) (σ : L2.St) (sl : Slots) : Prop where
  len : σ.length = sl.length
  get : ∀ (i : Nat) d, sl[i]? = some (some d) → ∃ v, σ[i]? = some (some v) ∧ RelD K F R v d
  pin : px.P F R
section
variable {K : Fr} {px : Pin} {F H F' H' : Hp} {R R' : List Addr} {S : Store} {σ : L2.St} {sl : Slots}
theorem SlR.mono (h : SlR K px F R σ sl) (e : Same F F') (eR : R <+: R') : SlR K px F' R' σ sl := ⟨h.len, fun i d z => let ⟨v, z1, z2⟩ := h.get i d z; ⟨v, z1, z2.mono e eR⟩, px.mono _ _ _ _ e eR h.pin⟩
theorem SlR.set (h : SlR K px F R σ sl) {i : Nat} {v : V} {d : D} (hv : RelD K F R v d) : SlR K px F R (σ.set i (some v)) (sl.set i (some d)) := by
  refine ⟨by rw [List.length_set, List.length_set]; exact h.len, fun j d' e => ?_, h.pin⟩
  rcases set_get e with ⟨rfl, e'⟩ | ⟨hj, e⟩
  · cases e'
    have hl := (List.getElem?_eq_some_iff.mp e).1
    rw [List.length_set] at hl
    exact ⟨v, by rw [List.getElem?_set_self (by rw [h.len]; exact hl)], hv⟩
  · obtain ⟨w, e1, e2⟩ := h.get j d' e
    exact ⟨w, by rw [List.getElem?_set_ne (Ne.symm hj)]; exact e1, e2⟩
theorem SlR.setN (h : SlR K px F R σ sl) {i : Nat} {o : Option V} : SlR K px F R (σ.set i o) (sl.set i none) := by
  refine ⟨by rw [List.length_set, List.length_set]; exact h.len, fun j d' e => ?_, h.pin⟩
  rcases set_get e with ⟨rfl, e'⟩ | ⟨hj, e⟩
  · cases e'
  · obtain ⟨w, e1, e2⟩ := h.get j d' e
    exact ⟨w, by rw [List.getElem?_set_ne (Ne.symm hj)]; exact e1, e2⟩
end
end Z

namespace Z
open PySem PySem.Spec PyProof.Rows L2

/-! ### judgements: a computation m tells what an expression does -/
structure Kx where
  X : Cx
  W : WX
  tk : Takes X W
  G : Hp
  px : Pin
abbrev Kx.K (C : Kx) : Fr := ⟨C.X.K, C.X.prog, C.X.w⟩
def XRel (K : Fr) (F : Hp) (cls : Value) (d : Option Addr) (x : Xc) : Prop :=
  cls = .ref (He.ga K.K x.c) ∧ ((x.ks = [] ∧ x.ps = [] ∧ d = none) ∨ ∃ a fs, d = some a ∧ F a = some (.xd fs) ∧ x.ks = fs.map (·.1) ∧ RpAll K F (fs.map (·.2)) x.ps)
section
variable {α β γ δ : Type}
def Post (C : Kx) (σ : L2.St) (F : Hp) (R : List Addr) (rel : Hp → List Addr → β → α → Prop) (Q : β → Hp → Prop) : Rs α → Prop
  | .ok a S' => ∀ b F' R' H', rel F' R' b a → Rep C.K C.G F' R' S' H' → Same F F' → R <+: R' → Q b H'
  | .exc x S' => ∀ cls d F' R' H', XRel C.K F' cls d x → Rep C.K C.G F' R' S' H' → Same F F' → R <+: R' → C.W cls d σ H'
  | .no => False
variable {C : Kx} {σ : L2.St} {F F1 : Hp} {R R1 : List Addr} {rel : Hp → List Addr → β → α → Prop} {Q : β → Hp → Prop}
theorem Post.mono {r : Rs α} (h : Post C σ F R rel Q r) (e : Same F F1) (eR : R <+: R1) : Post C σ F1 R1 rel Q r := by
  cases r with
  | ok a S => exact fun b F' R' H' h1 h2 h3 h4 => h b F' R' H' h1 h2 (e.trans h3) (pre_trans eR h4)
  | exc x S => exact fun c d F' R' H' h1 h2 h3 h4 => h c d F' R' H' h1 h2 (e.trans h3) (pre_trans eR h4)
  | no => exact h.elim
/-- behind the first part the rest is wanted -/
theorem Post.bind {rel2 : Hp → List Addr → δ → γ → Prop} {Q2 : δ → Hp → Prop} {r : Rs α} {f : α → Store → Rs γ} (h : Post C σ F R rel2 Q2 (r.bind f))
    (k : ∀ a S1 b F1 R1 H1, r = .ok a S1 → rel F1 R1 b a → Rep C.K C.G F1 R1 S1 H1 → Same F F1 → R <+: R1 → Post C σ F1 R1 rel2 Q2 (f a S1) → Q b H1) : Post C σ F R rel Q r := by
  cases r with
  | ok a S => exact fun b F' R' H' h1 h2 h3 h4 => k a S b F' R' H' rfl h1 h2 h3 h4 (Post.mono h h3 h4)
  | exc x S => exact h
  | no => exact h.elim
/-- the end of a part -/
theorem Post.okv {rel : Hp → List Addr → β → α → Prop} {a : α} {S : Store} {b : β} {H : Hp} (h : Post C σ F R rel Q (.ok a S)) (h1 : rel F R b a) (h2 : Rep C.K C.G F R S H) : Q b H := h b F R H h1 h2 (Same.refl _) pre_refl
end
abbrev M := Slots → Store → Rs D
abbrev MT := Slots → Store → Rs Bool
abbrev MA := Slots → Store → Rs (List D)
abbrev rB : Hp → List Addr → Bool → Bool → Prop := fun _ _ b a => b = a
structure Ej (C : Kx) (m : M) (e : Expr) : Prop where
  run : ∀ sl S σ F R H, SlR C.K C.px F R σ sl → Rep C.K C.G F R S H → ∀ Q : VK, Post C σ F R (RelD C.K) Q (m sl S) → ED C.X e σ H Q
instance {C : Kx} {m : M} {e : Expr} : CoeFun (Ej C m e) (fun _ => ∀ sl S σ F R H, SlR C.K C.px F R σ sl → Rep C.K C.G F R S H → ∀ Q : VK, Post C σ F R (RelD C.K) Q (m sl S) → ED C.X e σ H Q) := ⟨fun h => h.run⟩
structure Tj (C : Kx) (m : MT) (e : Expr) : Prop where
  run : ∀ sl S σ F R H, SlR C.K C.px F R σ sl → Rep C.K C.G F R S H → ∀ Q : Bool → Hp → Prop, Post C σ F R rB Q (m sl S) → TD C.X e σ H Q
instance {C : Kx} {m : MT} {e : Expr} : CoeFun (Tj C m e) (fun _ => ∀ sl S σ F R H, SlR C.K C.px F R σ sl → Rep C.K C.G F R S H → ∀ Q : Bool → Hp → Prop, Post C σ F R rB Q (m sl S) → TD C.X e σ H Q) := ⟨fun h => h.run⟩
structure Wj (C : Kx) (m : MT) (e : Expr) : Prop where
  run : ∀ sl S σ F R H, SlR C.K C.px F R σ sl → Rep C.K C.G F R S H → ∀ Q : Bool → Hp → Prop, Post C σ F R rB Q (m sl S) → WD C.X e σ H Q
instance {C : Kx} {m : MT} {e : Expr} : CoeFun (Wj C m e) (fun _ => ∀ sl S σ F R H, SlR C.K C.px F R σ sl → Rep C.K C.G F R S H → ∀ Q : Bool → Hp → Prop, Post C σ F R rB Q (m sl S) → WD C.X e σ H Q) := ⟨fun h => h.run⟩
structure Aj (C : Kx) (m : MA) (es : List Expr) : Prop where
  run : ∀ sl S σ F R H, SlR C.K C.px F R σ sl → Rep C.K C.G F R S H → ∀ Q : List V → Hp → Prop, Post C σ F R (RelAll C.K) Q (m sl S) → AD C.X es σ H Q
instance {C : Kx} {m : MA} {es : List Expr} : CoeFun (Aj C m es) (fun _ => ∀ sl S σ F R H, SlR C.K C.px F R σ sl → Rep C.K C.G F R S H → ∀ Q : List V → Hp → Prop, Post C σ F R (RelAll C.K) Q (m sl S) → AD C.X es σ H Q) := ⟨fun h => h.run⟩
inductive Fl where
  | nx (sl : Slots) (S : Store)
  | rt (d : D) (S : Store)
  | bk (sl : Slots) (S : Store)
  | ct (sl : Slots) (S : Store)
  | exc (x : Xc) (sl : Slots) (S : Store)
  | no
abbrev MS := Slots → Store → Fl
def PostS (C : Kx) (F : Hp) (R : List Addr) (D : Ends) : Fl → Prop
  | .nx sl S => ∀ σ' F' R' H', SlR C.K C.px F' R' σ' sl → Rep C.K C.G F' R' S H' → Same F F' → R <+: R' → D.nx σ' H'
  | .rt d S => ∀ v F' R' H', RelD C.K F' R' v d → Rep C.K C.G F' R' S H' → Same F F' → R <+: R' → D.rt v H'
  | .bk sl S => ∀ σ' F' R' H', SlR C.K C.px F' R' σ' sl → Rep C.K C.G F' R' S H' → Same F F' → R <+: R' → D.bk σ' H'
  | .ct sl S => ∀ σ' F' R' H', SlR C.K C.px F' R' σ' sl → Rep C.K C.G F' R' S H' → Same F F' → R <+: R' → D.ct σ' H'
  | .exc x sl S => ∀ cls d σ' F' R' H', XRel C.K F' cls d x → SlR C.K C.px F' R' σ' sl → Rep C.K C.G F' R' S H' → Same F F' → R <+: R' → C.W cls d σ' H'
  | .no => False
theorem PostS.mono {C : Kx} {F F1 : Hp} {R R1 : List Addr} {D : Ends} {r : Fl} (h : PostS C F R D r) (e : Same F F1) (eR : R <+: R1) : PostS C F1 R1 D r := by
  cases r with
  | nx sl S => exact fun b F' R' H' h1 h2 h3 h4 => h b F' R' H' h1 h2 (e.trans h3) (pre_trans eR h4)
  | rt sl S => exact fun b F' R' H' h1 h2 h3 h4 => h b F' R' H' h1 h2 (e.trans h3) (pre_trans eR h4)
  | bk sl S => exact fun b F' R' H' h1 h2 h3 h4 => h b F' R' H' h1 h2 (e.trans h3) (pre_trans eR h4)
  | ct sl S => exact fun b F' R' H' h1 h2 h3 h4 => h b F' R' H' h1 h2 (e.trans h3) (pre_trans eR h4)
  | exc x sl S => exact fun c d σ' F' R' H' h0 h1 h2 h3 h4 => h c d σ' F' R' H' h0 h1 h2 (e.trans h3) (pre_trans eR h4)
  | no => exact h.elim
structure Sj1 (C : Kx) (m : MS) (st : Stmt) : Prop where
  run : ∀ sl S σ F R H, SlR C.K C.px F R σ sl → Rep C.K C.G F R S H → ∀ D : Ends, PostS C F R D (m sl S) → SD1 C.X st D σ H
instance {C : Kx} {m : MS} {st : Stmt} : CoeFun (Sj1 C m st) (fun _ => ∀ sl S σ F R H, SlR C.K C.px F R σ sl → Rep C.K C.G F R S H → ∀ D : Ends, PostS C F R D (m sl S) → SD1 C.X st D σ H) := ⟨fun h => h.run⟩
structure Sj (C : Kx) (m : MS) (ss : List Stmt) : Prop where
  run : ∀ sl S σ F R H, SlR C.K C.px F R σ sl → Rep C.K C.G F R S H → ∀ D : Ends, PostS C F R D (m sl S) → SD C.X ss D σ H
instance {C : Kx} {m : MS} {ss : List Stmt} : CoeFun (Sj C m ss) (fun _ => ∀ sl S σ F R H, SlR C.K C.px F R σ sl → Rep C.K C.G F R S H → ∀ D : Ends, PostS C F R D (m sl S) → SD C.X ss D σ H) := ⟨fun h => h.run⟩
/-- an expression in a statement -/
def Rs.st {α : Type} (r : Rs α) (sl : Slots) (f : α → Store → Fl) : Fl := match r with
  | .ok a S => f a S
  | .exc x S => .exc x sl S
  | .no => .no
theorem PostS.bind {α β : Type} {C : Kx} {σ : L2.St} {F : Hp} {R : List Addr} {D : Ends} {sl : Slots} {rel : Hp → List Addr → β → α → Prop} {Q : β → Hp → Prop} {r : Rs α} {f : α → Store → Fl} (h : PostS C F R D (r.st sl f)) (hs : SlR C.K C.px F R σ sl)
    (k : ∀ a S1 b F1 R1 H1, r = .ok a S1 → rel F1 R1 b a → Rep C.K C.G F1 R1 S1 H1 → Same F F1 → R <+: R1 → SlR C.K C.px F1 R1 σ sl → PostS C F1 R1 D (f a S1) → Q b H1) : Post C σ F R rel Q r := by
  cases r with
  | ok a S => exact fun b F' R' H' h1 h2 h3 h4 => k a S b F' R' H' rfl h1 h2 h3 h4 (hs.mono h3 h4) (PostS.mono h h3 h4)
  | exc x S => exact fun c d F' R' H' h0 h1 h2 h3 => h c d σ F' R' H' h0 (hs.mono h2 h3) h1 h2 h3
  | no => exact h.elim

/-! ### arguments without stars -/
def notStar : Expr → Bool
  | .Starred _ _ => false
  | _ => true
theorem se_of {e : Expr} {es : List Expr} {env : Env} (h : notStar e = true) : starEach (e :: es) env = (false, eval e env) :: starEach es env := by
  cases e <;> first | rfl | cases h
theorem se_any : ∀ {es : List Expr} {env : Env}, es.all notStar = true → (starEach es env).any (·.1) = false
  | [], _, _ => rfl
  | e :: es, env, h => by
    rw [List.all_cons, Bool.and_eq_true] at h
    rw [se_of h.1, List.any_cons, se_any h.2]
    rfl
theorem pl_of {es : List Expr} {env : Env} {pos : Pos} (h : es.all notStar = true) : (backTo pos (starEach es env)).any (·.1) = false := by
  have := se_any (env := env) h
  unfold backTo
  cases hq : starEach es env with
  | nil => simp
  | cons x xs => rw [hq] at this; simp_all
/-! ### what is to be read of a value -/
def pures : List D → Option (List P)
  | [] => some []
  | .p p :: ds => (pures ds).map (p :: ·)
  | .ref _ :: _ => none
theorem pures_eq : ∀ {ds : List D} {ps : List P}, pures ds = some ps → ds = ps.map .p
  | [], _, h => by cases h; rfl
  | .p p :: ds, ps, h => by
    cases hq : pures ds with
    | none => simp only [pures, hq] at h; cases h
    | some qs => simp only [pures, hq] at h; cases h; rw [pures_eq hq]; rfl
  | .ref _ :: _, _, h => by cases h
theorem pures_map : ∀ ps : List P, pures (ps.map .p) = some ps
  | [] => rfl
  | p :: ps => by simp only [List.map_cons, pures, pures_map ps]; rfl
def viewC : Cell → Option P
  | .lst ds => (pures ds).map .lst
  | .dic t ks ds => (pures ds).map (.dic t ks)
  | .ins c ks ds => (pures ds).map (.ins c ks)
  | .dead => none
  | .tab _ => none
def view (S : Store) : D → Option P
  | .p p => some p
  | .ref n => match S[n]? with
    | some c => viewC c
    | none => none
inductive Vw (K : Fr) (F H : Hp) : V → P → Prop
  | p {v : V} {p : P} : Rp K F v p → Vw K F H v p
  | lst {a : Addr} {vs : List V} {ps : List P} : H a = some (.lst vs) → RpAll K F vs ps → Vw K F H (.ref a) (.lst ps)
  | dicK {a : Addr} {kvs : List (Key × V)} {ks ps : List P} : H a = some (.dK kvs) → ks = kvs.map (fun q => keyP q.1) → RpAll K F (kvs.map (·.2)) ps → Vw K F H (.ref a) (.dic false ks ps)
  | dicN {a : Addr} {kvs : List (NestedKey × Addr × V)} {ks ps : List P} : H a = some (dN K.pg K.w a kvs) → RpAll K F (kvs.map fun q => .ref q.2.1) ks → ks.map nkP = kvs.map (fun q => some q.1) → (∀ q ∈ kvs, q.1.depth ≤ 8) → RpAll K F (kvs.map (·.2.2)) ps → Vw K F H (.ref a) (.dic true ks ps)
  | ins {a dx : Addr} {c : Str} {fs : List (Str × V)} {ks : List Str} {ps : List P} : H a = some (.ins (He.ga K.K c) dx fs) → H dx = some (.own a) → ks = fs.map (·.1) → RpAll K F (fs.map (·.2)) ps → Vw K F H (.ref a) (.ins c ks ps)
section
variable {K : Fr} {G F H : Hp} {R : List Addr} {S : Store} {v : V} {p : P}
theorem view_vw {d : D} (hv : RelD K F R v d) (h : Rep K G F R S H) (e : view S d = some p) : Vw K F H v p := by
  cases d with
  | p q => cases e; exact .p hv
  | ref n =>
    obtain ⟨a, ha, rfl⟩ := hv
    cases hc : S[n]? with
    | none => simp only [view, hc] at e; cases e
    | some c =>
      have e : viewC c = some p := by simpa only [view, hc] using e
      obtain ⟨a', q, ha', ok, out⟩ := h.at hc
      rw [ha] at ha'; cases ha'
      cases ok with
      | @lst vs ds hr =>
        cases hp : pures ds with
        | none => simp only [viewC, hp] at e; cases e
        | some ps =>
          simp only [viewC, hp] at e; cases e
          rw [pures_eq hp] at hr
          exact .lst (out a _ one_same).2 hr.to_p
      | @dicK kvs ks ds hk hr =>
        cases hp : pures ds with
        | none => simp only [viewC, hp] at e; cases e
        | some ps =>
          simp only [viewC, hp] at e; cases e
          rw [pures_eq hp] at hr
          exact .dicK (out a _ one_same).2 hk hr.to_p
      | @dicN kvs ks ds h1 h2 h3 hr =>
        cases hp : pures ds with
        | none => simp only [viewC, hp] at e; cases e
        | some ps =>
          simp only [viewC, hp] at e; cases e
          rw [pures_eq hp] at hr
          exact .dicN (out a _ one_same).2 h1 h2 h3 hr.to_p
      | @ins dx c fs ks ds hd hk hr =>
        cases hp : pures ds with
        | none => simp only [viewC, hp] at e; cases e
        | some ps =>
          simp only [viewC, hp] at e; cases e
          rw [pures_eq hp] at hr
          exact .ins (out a _ two_fst).2 (out dx _ (two_snd hd)).2 hk hr.to_p
      | dead => cases e
      | tab _ _ _ => cases e
theorem Vw.rd (h : Vw K F H v p) (s : Same F H) : Rp K H v p := by
  cases h with
  | p h => exact Rp.mono s _ _ h
  | lst h1 h2 => exact .lst h1 (RpAll.mono s _ _ h2)
  | dicK h1 h2 h3 => exact .dicK h1 h2 (RpAll.mono s _ _ h3)
  | dicN h1 h2 h3 h4 h5 => exact .dicN h1 (RpAll.mono s _ _ h2) h3 h4 (RpAll.mono s _ _ h5)
  | ins h1 h2 h3 h4 => exact .ins h1 h2 h3 (RpAll.mono s _ _ h4)
theorem Vw.int {i : Int} (h : Vw K F H v (.int i)) : v = .int i := by cases h with | p h => cases h; rfl
theorem Vw.str {z : Str} (h : Vw K F H v (.str z)) : v = .str z := by cases h with | p h => cases h; rfl
theorem Vw.bl {b : Bool} (h : Vw K F H v (.bl b)) : v = .bl b := by cases h with | p h => cases h; rfl
theorem Vw.non (h : Vw K F H v .non) : v = .non := by cases h with | p h => cases h; rfl
theorem Vw.lstE {ps : List P} (h : Vw K F H v (.lst ps)) (s : Same F H) : ∃ a vs, v = .ref a ∧ H a = some (.lst vs) ∧ RpAll K F vs ps := by
  cases h with
  | p h => cases h with | lst h1 h2 => exact ⟨_, _, rfl, s _ _ h1, h2⟩
  | lst h1 h2 => exact ⟨_, _, rfl, h1, h2⟩
theorem Vw.tupE {ps : List P} (h : Vw K F H v (.tup ps)) : ∃ a vs, v = .ref a ∧ SqT K.K F a vs ∧ RpAll K F vs ps := by
  cases h with
  | p h =>
    cases h with
    | tup h1 h2 => exact ⟨_, _, rfl, .inl (.inl h1), h2⟩
    | tupW h1 h2 => exact ⟨_, _, rfl, h1, h2⟩
theorem Vw.tupP {ps : List P} (h : Vw K F H v (.tup ps)) : Rp K F v (.tup ps) := by
  cases h with
  | p h => exact h
theorem Vw.scrE {ns : List Int} (h : Vw K F H v (.scr ns)) (s : Same F H) : ∃ a, v = .ref a ∧ SqL K.K H a (ns.map V.int) := by
  cases h with
  | p h => cases h with | scr h1 => exact ⟨_, rfl, same_sqL s h1⟩
end

/-! ### data that may be compared -/
mutual
def eqv : P → P → Bool
  | .non, .non => true
  | .bl a, .bl b => a == b
  | .bl a, .int j => (if a then 1 else 0) == j
  | .int i, .bl b => i == (if b then 1 else 0)
  | .int i, .int j => i == j
  | .str x, .str y => x == y
  | .lst xs, .lst ys => eqvAll xs ys
  | .tup xs, .tup ys => eqvAll xs ys
  | _, _ => false
def eqvAll : List P → List P → Bool
  | [], [] => true
  | x :: xs, y :: ys => eqv x y && eqvAll xs ys
  | _, _ => false
end
mutual
def py : P → PyData
  | .non => .none
  | .bl b => .bool b
  | .int i => .int i
  | .str z => .str z
  | .lst ps => .list (pyAll ps)
  | .tup ps => .tuple (pyAll ps)
  | _ => .none
def pyAll : List P → List PyData
  | [] => []
  | p :: ps => py p :: pyAll ps
end
def chOk (x : Str) : Bool := PyData.strOk x
/-- plain data, at most n deep -/
def fin : Nat → P → Bool
  | _, .non => true
  | _, .bl _ => true
  | _, .int _ => true
  | _, .str x => chOk x
  | n + 1, .lst xs => xs.all (fin n)
  | n + 1, .tup xs => xs.all (fin n)
  | _, _ => false
abbrev dpt : Nat := 24
theorem canLayAll_all : ∀ {xs : List PyData}, (∀ x ∈ xs, PyData.canLay0 x = true) → PyData.canLayAll0 xs = true
  | [], _ => by simp [PyData.canLayAll0]
  | x :: xs, h => by
    simp only [PyData.canLayAll0, Bool.and_eq_true]
    exact ⟨h x (List.mem_cons_self ..), canLayAll_all fun y hy => h y (List.mem_cons_of_mem _ hy)⟩
theorem depthAll_le {n : Nat} : ∀ {xs : List PyData}, (∀ x ∈ xs, PyData.depth x ≤ n) → PyData.depthAll xs ≤ n
  | [], _ => by simp [PyData.depthAll]
  | x :: xs, h => by
    simp only [PyData.depthAll]
    exact Nat.max_le.mpr ⟨h x (List.mem_cons_self ..), depthAll_le fun y hy => h y (List.mem_cons_of_mem _ hy)⟩
theorem pyAll_map : ∀ ps : List P, pyAll ps = ps.map py
  | [] => rfl
  | p :: ps => by simp only [pyAll, List.map_cons, pyAll_map ps]
theorem fin_lay : ∀ (n : Nat) (d : P), fin n d = true → PyData.canLay0 (py d) = true ∧ PyData.depth (py d) ≤ n
  | _, .non, _ => ⟨by simp [py, PyData.canLay0], by simp [py, PyData.depth]⟩
  | _, .bl _, _ => ⟨by simp [py, PyData.canLay0], by simp [py, PyData.depth]⟩
  | _, .int _, _ => ⟨by simp [py, PyData.canLay0], by simp [py, PyData.depth]⟩
  | n, .str x, h => ⟨by
      have h' : chOk x = true := by cases n <;> exact h
      simp only [py, PyData.canLay0]; exact h', by simp [py, PyData.depth]⟩
  | n + 1, .lst xs, h => by
    have all := List.all_eq_true.mp (show xs.all (fin n) = true from h)
    simp only [py, pyAll_map]
    refine ⟨by
      simp only [PyData.canLay0]
      exact canLayAll_all fun x hx => by obtain ⟨q, hq, rfl⟩ := List.mem_map.mp hx; exact (fin_lay n q (all q hq)).1, ?_⟩
    simp only [PyData.depth]
    have := depthAll_le (n := n) (xs := xs.map py) fun x hx => by obtain ⟨q, hq, rfl⟩ := List.mem_map.mp hx; exact (fin_lay n q (all q hq)).2
    omega
  | n + 1, .tup xs, h => by
    have all := List.all_eq_true.mp (show xs.all (fin n) = true from h)
    simp only [py, pyAll_map]
    refine ⟨by
      simp only [PyData.canLay0]
      exact canLayAll_all fun x hx => by obtain ⟨q, hq, rfl⟩ := List.mem_map.mp hx; exact (fin_lay n q (all q hq)).1, ?_⟩
    simp only [PyData.depth]
    have := depthAll_le (n := n) (xs := xs.map py) fun x hx => by obtain ⟨q, hq, rfl⟩ := List.mem_map.mp hx; exact (fin_lay n q (all q hq)).2
    omega
  | 0, .lst _, h => by cases h
  | 0, .tup _, h => by cases h
  | 0, .dic _ _ _, h => by cases h
  | _ + 1, .dic _ _ _, h => by cases h
  | 0, .ins _ _ _, h => by cases h
  | _ + 1, .ins _ _ _, h => by cases h
  | 0, .glo _, h => by cases h
  | _ + 1, .glo _, h => by cases h
  | 0, .ty _, h => by cases h
  | _ + 1, .ty _, h => by cases h
  | 0, .scr _, h => by cases h
  | _ + 1, .scr _, h => by cases h
  | 0, .exv _ _ _, h => by cases h
  | _ + 1, .exv _ _ _, h => by cases h
theorem fin_shaped {n : Nat} {d : P} (h : fin n d = true) (hn : n ≤ 64 := by decide) : SeqAt.shaped (py d) = true := by
  obtain ⟨h1, h2⟩ := fin_lay n d h
  unfold SeqAt.shaped
  rw [Bool.and_eq_true]
  exact ⟨h1, decide_eq_true (Nat.le_trans h2 hn)⟩
theorem fin_py : ∀ (n : Nat) (p q : P), fin n p = true → fin n q = true → PyData.eqv (py p) (py q) = eqv p q := by
  intro n
  induction n with
  | zero =>
    intro p q hp hq
    cases p <;> first | (cases hp; done) | skip
    all_goals (cases q <;> first | (cases hq; done) | simp only [py, PyData.eqv, eqv])
  | succ n ih =>
    have all : ∀ xs ys : List P, (∀ x ∈ xs, fin n x = true) → (∀ y ∈ ys, fin n y = true) → PyData.eqvAll (pyAll xs) (pyAll ys) = eqvAll xs ys := by
      intro xs
      induction xs with
      | nil => intro ys _ _; cases ys <;> simp only [pyAll, PyData.eqvAll, eqvAll]
      | cons x xs ih2 =>
        intro ys h1 h2
        cases ys with
        | nil => simp only [pyAll, PyData.eqvAll, eqvAll]
        | cons y ys =>
          simp only [pyAll, PyData.eqvAll, eqvAll]
          rw [ih x y (h1 x (List.mem_cons_self ..)) (h2 y (List.mem_cons_self ..)), ih2 ys (fun z hz => h1 z (List.mem_cons_of_mem _ hz)) (fun z hz => h2 z (List.mem_cons_of_mem _ hz))]
    intro p q hp hq
    cases p <;> first | (cases hp; done) | skip
    all_goals (cases q <;> first | (cases hq; done) | skip)
    all_goals first
      | (simp only [py, PyData.eqv, eqv]; done)
      | (simp only [py, PyData.eqv, eqv]; exact all _ _ (List.all_eq_true.mp hp) (List.all_eq_true.mp hq))
section
variable {K : Fr} {F : Hp}
theorem rp_dp : ∀ (n : Nat) (p : P) (v : V), fin n p = true → Rp K F v p → Dp K.K F v (py p) := by
  intro n
  induction n with
  | zero =>
    intro p v hp h
    cases h <;> first | (cases hp; done) | skip
    · simp only [py]; exact .non
    · simp only [py]; exact .bl _
    · simp only [py]; exact .int _
    · simp only [py]; exact .str _
  | succ n ih =>
    have all : ∀ (ps : List P) (vs : List V), (∀ x ∈ ps, fin n x = true) → RpAll K F vs ps → DpAll K.K F vs (pyAll ps) := by
      intro ps
      induction ps with
      | nil => intro vs _ h; cases h; simp only [pyAll]; exact .nil
      | cons p ps ih2 =>
        intro vs h1 h
        cases h with
        | cons h2 h3 =>
          simp only [pyAll]
          exact .cons (ih p _ (h1 p (List.mem_cons_self ..)) h2) (ih2 _ (fun z hz => h1 z (List.mem_cons_of_mem _ hz)) h3)
    intro p v hp h
    cases h <;> first | (cases hp; done) | skip
    · simp only [py]; exact .non
    · simp only [py]; exact .bl _
    · simp only [py]; exact .int _
    · simp only [py]; exact .str _
    · rename_i h1 h2
      simp only [py]; exact .lst (.inl (.inl h1)) (all _ _ (List.all_eq_true.mp hp) h2)
    · rename_i h1 h2
      simp only [py]; exact .tup (.inl (.inl h1)) (all _ _ (List.all_eq_true.mp hp) h2)
    · rename_i h1 h2 _
      simp only [py]; exact .tup h1 (all _ _ (List.all_eq_true.mp hp) h2)
end
end Z

namespace Z
open PySem PySem.Spec PyProof.Rows L2
section
variable {C : Kx} {a b c e : Expr} {es rest : List Expr} {pos p : Pos} {x : Str} {m m1 m2 m3 : M} {t t1 t2 : MT}

/-! ### names, constants -/
def eV (i : Nat) : M := fun sl S => match sl[i]? with
  | some (some d) => .ok d S
  | _ => .no
theorem ej_v (i : Nat) (hN : C.X.N[i]? = some x := by rfl) (hv : Vis C.X.env.scope x := by first | exact Or.inl rfl | exact Or.inr (Or.inl rfl) | exact Or.inr (Or.inr rfl)) (hd : (x == ("__debug__" : Str)) = false := by decide) (hcd : (x == ("__classdict__" : Str)) = false := by decide) : Ej C (eV i) (.Name x pos) := .mk fun sl S σ F R H hs hr Q post => by
  unfold eV at post
  cases h : sl[i]? with
  | none => rw [h] at post; exact post.elim
  | some o =>
    rw [h] at post
    cases o with
    | none => exact post.elim
    | some d =>
      obtain ⟨v, e, p⟩ := hs.get i d h
      exact ED.of (pe_var hN hv hd hcd) ⟨v, e, post.okv p hr⟩
def eK (p : P) : M := fun _ S => .ok (.p p) S
theorem ej_val {v : V} {q : P} (h : PE C.X e (tC v)) (hv : ∀ F, Rp C.K F v q) : Ej C (eK q) e := .mk fun sl S σ F R H hs hr Q post =>
  ED.of h (post.okv (b := v) (hv F) hr)
theorem ej_int {i : Int} {j} : Ej C (eK (.int i)) (.Constant (.int i) j pos) := ej_val pe_int fun _ => .int i
theorem ej_bl {i : Bool} {j} : Ej C (eK (.bl i)) (.Constant (.bool i) j pos) := ej_val pe_bl fun _ => .bl i
theorem ej_str {i : Str} {j} : Ej C (eK (.str i)) (.Constant (.str i) j pos) := ej_val pe_str fun _ => .str i
theorem ej_non {j} : Ej C (eK .non) (.Constant .none j pos) := ej_val pe_non fun _ => .non
theorem ej_gS {z : Str} (hm : ∃ t, C.X.mg x = some (.str z t)) (hg : Gl C.X x := by rfl) (hd : (x == ("__debug__" : Str)) = false := by decide) : Ej C (eK (.str z)) (.Name x pos) := let ⟨_, hm⟩ := hm; ej_val (pe_glob (v := .str z) hg hm ⟨_, rfl⟩ hd) fun _ => .str z
theorem ej_gI {z : Int} (hm : ∃ t, C.X.mg x = some (.int z t)) (hg : Gl C.X x := by rfl) (hd : (x == ("__debug__" : Str)) = false := by decide) : Ej C (eK (.int z)) (.Name x pos) := let ⟨_, hm⟩ := hm; ej_val (pe_glob (v := .int z) hg hm ⟨_, rfl⟩ hd) fun _ => .int z
theorem ej_gO (hm : C.X.mg x = some (.ref (He.ga C.K.K x))) (hg : Gl C.X x := by rfl) (hd : (x == ("__debug__" : Str)) = false := by decide) : Ej C (eK (.glo x)) (.Name x pos) := ej_val (pe_glob (v := .ref (He.ga C.K.K x)) hg hm rfl hd) fun _ => .glo x
theorem ej_ty {n : String} (hm : C.X.mg x = none) (hv : bootBuiltins x = some (.type n) := by decide +kernel) (hg : Gl C.X x := by rfl) (hn : x ≠ "__name__" := by decide) (hd : (x == ("__debug__" : Str)) = false := by decide) : Ej C (eK (.ty n)) (.Name x pos) := ej_val (pe_bltn (v := .ty n) hg hm hv rfl hn hd) fun _ => .ty n

/-! ### operators by what is read of values -/
def lift2 (f : P → P → Option P) (d1 d2 : D) (S : Store) : Rs D := match view S d1, view S d2 with
  | some p, some q => match f p q with
    | some r => .ok (.p r) S
    | none => .no
  | _, _ => .no
def eB (f : P → P → Option P) (m1 m2 : M) : M := fun sl S => (m1 sl S).bind fun d1 S1 => (m2 sl S1).bind fun d2 S2 => lift2 f d1 d2 S2
def BinV (K : Fr) (r : R2) (f : P → P → Option P) : Prop := ∀ p q z x y F H (Q : VK), f p q = some z → Vw K F H x p → Vw K F H y q → Same F H → (∀ v F' H', Rp K F' v z → Grow F H F' H' → Q v H') → r x y H Q
theorem lift2_post {K : Fr} {r : R2} {f : P → P → Option P} {σ : L2.St} {F H : Hp} {R : List Addr} {S : Store} {d1 d2 : D} {x y : V} {Q : VK} (hK : K = C.K) (hb : BinV K r f) (rx : RelD C.K F R x d1) (ry : RelD C.K F R y d2) (rep : Rep C.K C.G F R S H)
    (post : Post C σ F R (RelD C.K) Q (lift2 f d1 d2 S)) : r x y H Q := by
  subst hK
  unfold lift2 at post
  cases h1 : view S d1 with
  | none => rw [h1] at post; exact post.elim
  | some p =>
    rw [h1] at post
    cases h2 : view S d2 with
    | none => rw [h2] at post; exact post.elim
    | some q =>
      rw [h2] at post
      cases h3 : f p q with
      | none => simp only [h3] at post; exact post.elim
      | some z =>
        simp only [h3] at post
        exact hb p q z x y F H Q h3 (view_vw rx rep h1) (view_vw ry rep h2) rep.sub fun v F' H' rv g => post v F' R H' rv (rep.grow g) g.sF pre_refl
theorem ej_op2 {r : R2} {f : P → P → Option P} (hp : PE C.X e (tOp r (ED C.X a) (ED C.X b))) (hb : BinV C.K r f) (h1 : Ej C m1 a) (h2 : Ej C m2 b) : Ej C (eB f m1 m2) e := .mk fun sl S σ F R H hs hr Q post =>
  ED.of hp (h1 sl S σ F R H hs hr _ (Post.bind post fun d1 S1 x F1 R1 H1 _ rx rep1 s1 r1 post1 => h2 sl S1 σ F1 R1 H1 (hs.mono s1 r1) rep1 _ (Post.bind post1 fun d2 S2 y F2 R2 H2 _ ry rep2 s2 r2 post2 =>
    lift2_post rfl hb (rx.mono s2 r2) ry rep2 post2)))
theorem ej_bin {op : Operator} {r : R2} {f : P → P → Option P} (ho : OpR C.X (binaryOp op) r) (hb : BinV C.K r f) (h1 : Ej C m1 a) (h2 : Ej C m2 b) : Ej C (eB f m1 m2) (.BinOp a op b pos) := ej_op2 (pe_op ho pe_d pe_d) hb h1 h2
theorem ej_cmp {op : CmpOp} {r : R2} {f : P → P → Option P} (ho : OpR C.X (compareOp op) r) (hb : BinV C.K r f) (h1 : Ej C m1 a) (h2 : Ej C m2 b) (hm : behindInMarks op b = false := by first | exact nomark _ | rfl) : Ej C (eB f m1 m2) (.Compare a [op] [b] pos) := ej_op2 (pe_cmpR ho pe_d pe_d hm) hb h1 h2
theorem ej_ix {r : R2} {f : P → P → Option P} (hr : IxR C.X r) (hb : BinV C.K r f) (h1 : Ej C m1 a) (h2 : Ej C m2 b) (hs : PlainIx b := by exact fun _ _ => rfl) : Ej C (eB f m1 m2) (.Subscript a b pos) := ej_op2 (pe_ix hr pe_d pe_d hs) hb h1 h2
/-- the answer as a test -/
def asB : D → Store → Rs Bool
  | .p (.bl b), S => .ok b S
  | _, _ => .no
theorem tj_op2 {r : R2} {f : P → P → Option P} (hp : PT C.X e (tTest (tOp r (ED C.X a) (ED C.X b)))) (hb : BinV C.K r f) (h1 : Ej C m1 a) (h2 : Ej C m2 b) : Tj C (fun sl S => (eB f m1 m2 sl S).bind asB) e := .mk fun sl S σ F R H hs hr Q post => by
  have post' : Post C σ F R (RelD C.K) (fun x H' => ∃ k, x = .bl k ∧ Q k H') (eB f m1 m2 sl S) := Post.bind post fun d S1 x F1 R1 H1 _ rx rep1 s1 r1 post1 => by
    cases d with
    | ref n => exact post1.elim
    | p q =>
      cases q <;> first | exact post1.elim | skip
      cases rx
      exact ⟨_, rfl, post1.okv rfl rep1⟩
  refine TD.of hp ?_
  exact (h1 sl S σ F R H hs hr _ (Post.bind post' fun d1 S1 x F1 R1 H1 _ rx rep1 s1 r1 post1 => h2 sl S1 σ F1 R1 H1 (hs.mono s1 r1) rep1 _ (Post.bind post1 fun d2 S2 y F2 R2 H2 _ ry rep2 s2 r2 post2 =>
    lift2_post rfl hb (rx.mono s2 r2) ry rep2 post2)))
def tB (f : P → P → Option P) (m1 m2 : M) : MT := fun sl S => (eB f m1 m2 sl S).bind asB
theorem tj_cmp {op : CmpOp} {r : R2} {f : P → P → Option P} (ho : OpR C.X (compareOp op) r) (hb : BinV C.K r f) (h1 : Ej C m1 a) (h2 : Ej C m2 b) (hm : behindInMarks op b = false := by first | exact nomark _ | rfl) : Tj C (tB f m1 m2) (.Compare a [op] [b] pos) := tj_op2 (pt_cmpR ho pe_d pe_d hm) hb h1 h2
/-- a value as a test -/
def truP : P → Option Bool
  | .non => some false
  | .bl b => some b
  | .int i => some (i != 0)
  | .str z => if z.length ≤ sizeLine then some ((z.length : Int) != 0) else none
  | .lst ps => some (!ps.isEmpty)
  | .tup ps => some (!ps.isEmpty)
  | _ => none
def tru (S : Store) (d : D) : Rs Bool := match view S d with
  | some p => match truP p with
    | some b => .ok b S
    | none => .no
  | none => .no
def tV (m : M) : MT := fun sl S => (m sl S).bind fun d S1 => tru S1 d
theorem tru_of {K : Fr} {F H : Hp} {x : V} {p : P} {k : Bool} (h : Vw K F H x p) (s : Same F H) (e : truP p = some k) : TruV K.K x H k := by
  cases p <;> first | (cases e; done) | skip
  · cases e; cases h.non; exact rfl
  · cases e; cases h.bl; exact rfl
  · cases e; cases h.int; exact rfl
  · rename_i z
    have e : (if z.length ≤ sizeLine then some ((z.length : Int) != 0) else none) = some k := e
    split at e
    · rename_i hz; cases e; cases h.str; exact ⟨hz, rfl⟩
    · cases e
  · obtain ⟨a, vs, rfl, h1, h2⟩ := h.tupE
    cases e
    refine .inr (.inl ⟨vs, same_sqT s h1, ?_⟩)
    cases h2 <;> rfl
  · obtain ⟨a, vs, rfl, h1, h2⟩ := h.lstE s
    cases e
    refine .inl ⟨vs, .inl (.inl h1), ?_⟩
    cases h2 <;> rfl
theorem tru_post {σ : L2.St} {F H : Hp} {R : List Addr} {S : Store} {d : D} {x : V} {Q : Bool → Hp → Prop} (rx : RelD C.K F R x d) (rep : Rep C.K C.G F R S H) (post : Post C σ F R rB Q (tru S d)) : ∃ k, TruV C.K.K x H k ∧ Q k H := by
  unfold tru at post
  cases h1 : view S d with
  | none => rw [h1] at post; exact post.elim
  | some p =>
    rw [h1] at post
    cases h3 : truP p with
    | none => simp only [h3] at post; exact post.elim
    | some k =>
      simp only [h3] at post
      exact ⟨k, tru_of (view_vw rx rep h1) rep.sub h3, post.okv rfl rep⟩
theorem tj_v (h : Ej C m e) (he : ∀ whole, isTrue e C.X.env whole = (do let v ← whole; standAt e.pos; holding [v] (truthy v)) := by intro _; rfl) : Tj C (tV m) e := .mk fun sl S σ F R H hs hr Q post =>
  TD.of (pt_truth pe_d he) (h sl S σ F R H hs hr _ (Post.bind post fun d S1 x F1 R1 H1 _ rx rep1 s1 r1 post1 => tru_post rx rep1 post1))
def tN (t : MT) : MT := fun sl S => (t sl S).bind fun b S1 => .ok (!b) S1
theorem tj_not (h : Tj C t a) : Tj C (tN t) (.UnaryOp .Not a pos) := .mk fun sl S σ F R H hs hr Q post =>
  TD.of (pt_not pt_d) (h sl S σ F R H hs hr _ (Post.bind post fun b S1 b' F1 R1 H1 _ rx rep1 s1 r1 post1 => by subst rx; exact post1.okv rfl rep1))
theorem tj_w (h : Wj C t e) : Tj C t e := .mk fun sl S σ F R H hs hr Q post => TD.of (PW.pt pw_d) (h sl S σ F R H hs hr Q post)
theorem wj_and1 (h : Tj C t a) : Wj C t (.BoolOp .And [a] pos) := .mk fun sl S σ F R H hs hr Q post => WD.of (pw_and1 pt_d) (h sl S σ F R H hs hr Q post)
theorem wj_or1 (h : Tj C t a) : Wj C t (.BoolOp .Or [a] pos) := .mk fun sl S σ F R H hs hr Q post => WD.of (pw_or1 pt_d) (h sl S σ F R H hs hr Q post)
def tAnd (t1 t2 : MT) : MT := fun sl S => (t1 sl S).bind fun b S1 => if b = true then t2 sl S1 else .ok false S1
def tOr (t1 t2 : MT) : MT := fun sl S => (t1 sl S).bind fun b S1 => if b = true then .ok true S1 else t2 sl S1
theorem wj_and (h1 : Tj C t1 a) (h2 : Wj C t2 (.BoolOp .And (b :: rest) pos)) : Wj C (tAnd t1 t2) (.BoolOp .And (a :: b :: rest) pos) := .mk fun sl S σ F R H hs hr Q post =>
  WD.of (pw_and pt_d pw_d) (h1 sl S σ F R H hs hr _ (Post.bind post fun k S1 k' F1 R1 H1 _ rx rep1 s1 r1 post1 => by
    cases (show k' = k from rx)
    cases k with
    | true =>
      show WD C.X _ σ H1 Q
      exact h2 sl S1 σ F1 R1 H1 (hs.mono s1 r1) rep1 Q post1
    | false =>
      show Q false H1
      exact post1.okv (b := false) rfl rep1))
theorem wj_or (h1 : Tj C t1 a) (h2 : Wj C t2 (.BoolOp .Or (b :: rest) pos)) : Wj C (tOr t1 t2) (.BoolOp .Or (a :: b :: rest) pos) := .mk fun sl S σ F R H hs hr Q post =>
  WD.of (pw_or pt_d pw_d) (h1 sl S σ F R H hs hr _ (Post.bind post fun k S1 k' F1 R1 H1 _ rx rep1 s1 r1 post1 => by
    cases (show k' = k from rx)
    cases k with
    | false =>
      show WD C.X _ σ H1 Q
      exact h2 sl S1 σ F1 R1 H1 (hs.mono s1 r1) rep1 Q post1
    | true =>
      show Q true H1
      exact post1.okv (b := true) rfl rep1))
/-! and, or, not as values (the first ones truth values) -/
theorem ej_one {op} (h : Ej C m a) : Ej C m (.BoolOp op [a] pos) := .mk fun sl S σ F R H hs hr Q post => ED.of (pe_one pe_d) (h sl S σ F R H hs hr Q post)
def eAnd (m1 m2 : M) : M := fun sl S => (m1 sl S).bind fun d S1 => match d with
  | .p (.bl true) => m2 sl S1
  | .p (.bl false) => .ok (.p (.bl false)) S1
  | _ => .no
def eOr (m1 m2 : M) : M := fun sl S => (m1 sl S).bind fun d S1 => match d with
  | .p (.bl false) => m2 sl S1
  | .p (.bl true) => .ok (.p (.bl true)) S1
  | _ => .no
theorem ej_and (h1 : Ej C m1 a) (h2 : Ej C m2 (.BoolOp .And (b :: rest) pos)) : Ej C (eAnd m1 m2) (.BoolOp .And (a :: b :: rest) pos) := .mk fun sl S σ F R H hs hr Q post =>
  ED.of (pe_and pe_d pe_d) (h1 sl S σ F R H hs hr _ (Post.bind post fun d S1 x F1 R1 H1 _ rx rep1 s1 r1 post1 => by
    cases d with
    | ref n => exact post1.elim
    | p q =>
      cases q with
      | bl k =>
        cases rx
        refine ⟨k, rfl, ?_⟩
        cases k with
        | true =>
          show ED C.X _ σ H1 Q
          exact h2 sl S1 σ F1 R1 H1 (hs.mono s1 r1) rep1 Q post1
        | false =>
          show Q (.bl false) H1
          exact post1.okv (show RelD C.K F1 R1 (.bl false) (.p (.bl false)) from .bl _) rep1
      | _ => exact post1.elim))
theorem ej_or (h1 : Ej C m1 a) (h2 : Ej C m2 (.BoolOp .Or (b :: rest) pos)) : Ej C (eOr m1 m2) (.BoolOp .Or (a :: b :: rest) pos) := .mk fun sl S σ F R H hs hr Q post =>
  ED.of (pe_or pe_d pe_d) (h1 sl S σ F R H hs hr _ (Post.bind post fun d S1 x F1 R1 H1 _ rx rep1 s1 r1 post1 => by
    cases d with
    | ref n => exact post1.elim
    | p q =>
      cases q with
      | bl k =>
        cases rx
        refine ⟨k, rfl, ?_⟩
        cases k with
        | false =>
          show ED C.X _ σ H1 Q
          exact h2 sl S1 σ F1 R1 H1 (hs.mono s1 r1) rep1 Q post1
        | true =>
          show Q (.bl true) H1
          exact post1.okv (show RelD C.K F1 R1 (.bl true) (.p (.bl true)) from .bl _) rep1
      | _ => exact post1.elim))
def eNot (m : M) : M := fun sl S => (m sl S).bind fun d S1 => match d with
  | .p (.bl b) => .ok (.p (.bl !b)) S1
  | _ => .no
theorem ej_not (h : Ej C m a) : Ej C (eNot m) (.UnaryOp .Not a pos) := .mk fun sl S σ F R H hs hr Q post =>
  ED.of (pe_not pe_d) (h sl S σ F R H hs hr _ (Post.bind post fun d S1 x F1 R1 H1 _ rx rep1 s1 r1 post1 => by
    cases d with
    | ref n => exact post1.elim
    | p q =>
      cases q <;> first | exact post1.elim | skip
      cases rx
      exact ⟨_, rfl, post1.okv (show RelD C.K F1 R1 (.bl (!_)) (.p (.bl (!_))) from .bl _) rep1⟩))
def eIf (t : MT) (m1 m2 : M) : M := fun sl S => (t sl S).bind fun b S1 => if b = true then m1 sl S1 else m2 sl S1
theorem ej_if (h : Tj C t c) (h1 : Ej C m1 a) (h2 : Ej C m2 b) : Ej C (eIf t m1 m2) (.IfExp c a b pos) := .mk fun sl S σ F R H hs hr Q post =>
  ED.of (pe_ifExp pt_d pe_d pe_d) (h sl S σ F R H hs hr _ (Post.bind post fun k S1 k' F1 R1 H1 _ rx rep1 s1 r1 post1 => by
    cases (show k' = k from rx)
    cases k with
    | true =>
      show ED C.X _ σ H1 Q
      exact h1 sl S1 σ F1 R1 H1 (hs.mono s1 r1) rep1 Q post1
    | false =>
      show ED C.X _ σ H1 Q
      exact h2 sl S1 σ F1 R1 H1 (hs.mono s1 r1) rep1 Q post1))

/-! ### arguments -/
def aN : MA := fun _ S => .ok [] S
def aC (m : M) (ma : MA) : MA := fun sl S => (m sl S).bind fun d S1 => (ma sl S1).bind fun ds S2 => .ok (d :: ds) S2
theorem aj_nil : Aj C aN [] := .mk fun sl S σ F R H hs hr Q post => AD.of pa_nil (post.okv .nil hr)
theorem aj_cons {ma : MA} (h1 : Ej C m e) (h2 : Aj C ma es) (he : starEach (e :: es) C.X.env = (false, eval e C.X.env) :: starEach es C.X.env := by exact se_of rfl) : Aj C (aC m ma) (e :: es) := .mk fun sl S σ F R H hs hr Q post =>
  AD.of (pa_cons pe_d pa_d he) (h1 sl S σ F R H hs hr _ (Post.bind post fun d S1 x F1 R1 H1 _ rx rep1 s1 r1 post1 => h2 sl S1 σ F1 R1 H1 (hs.mono s1 r1) rep1 _ (Post.bind post1 fun ds S2 ys F2 R2 H2 _ ry rep2 s2 r2 post2 =>
    post2.okv (b := x :: ys) (.cons (rx.mono s2 r2) ry) rep2)))

/-! ### built-in functions by what is read of their arguments -/
def views (S : Store) : List D → Option (List P)
  | [] => some []
  | d :: ds => match view S d, views S ds with
    | some p, some ps => some (p :: ps)
    | _, _ => none
abbrev VwAll (K : Fr) (F H : Hp) : List V → List P → Prop := Paired fun v p => Vw K F H v p
theorem views_vw {K : Fr} {G F H : Hp} {R : List Addr} {S : Store} : ∀ {ds : List D} {vs : List V} {ps : List P}, RelAll K F R vs ds → Rep K G F R S H → views S ds = some ps → VwAll K F H vs ps
  | [], _, _, h, _, e => by cases h; cases e; exact .nil
  | d :: ds, _, ps, h, rep, e => by
    cases h with
    | cons h1 h2 =>
      cases e1 : view S d with
      | none => simp only [views, e1] at e; cases e
      | some p =>
        cases e2 : views S ds with
        | none => simp only [views, e1, e2] at e; cases e
        | some qs =>
          simp only [views, e1, e2] at e; cases e
          exact .cons (view_vw h1 rep e1) (views_vw h2 rep e2)
def liftA (f : List P → Option P) (ds : List D) (S : Store) : Rs D := match views S ds with
  | some ps => match f ps with
    | some r => .ok (.p r) S
    | none => .no
  | none => .no
def eF (f : List P → Option P) (ma : MA) : M := fun sl S => (ma sl S).bind fun ds S1 => liftA f ds S1
def CallV (K : Fr) (r : List V → Hp → VK → Prop) (f : List P → Option P) : Prop := ∀ ps z vs F H (Q : VK), f ps = some z → VwAll K F H vs ps → Same F H → (∀ v F' H', Rp K F' v z → Grow F H F' H' → Q v H') → r vs H Q
theorem liftA_post {r : List V → Hp → VK → Prop} {f : List P → Option P} {σ : L2.St} {F H : Hp} {R : List Addr} {S : Store} {ds : List D} {vs : List V} {Q : VK} (hb : CallV C.K r f) (rx : RelAll C.K F R vs ds) (rep : Rep C.K C.G F R S H)
    (post : Post C σ F R (RelD C.K) Q (liftA f ds S)) : r vs H Q := by
  unfold liftA at post
  cases h1 : views S ds with
  | none => rw [h1] at post; exact post.elim
  | some ps =>
    rw [h1] at post
    cases h3 : f ps with
    | none => simp only [h3] at post; exact post.elim
    | some z =>
      simp only [h3] at post
      exact hb ps z vs F H Q h3 (views_vw rx rep h1) rep.sub fun v F' H' rv g => post v F' R H' rv (rep.grow g) g.sF pre_refl
theorem ej_cb {r : List V → Hp → VK → Prop} {f : List P → Option P} {ma : MA} (hp : PE C.X e (tCB r (AD C.X es))) (hb : CallV C.K r f) (h : Aj C ma es) : Ej C (eF f ma) e := .mk fun sl S σ F R H hs hr Q post =>
  ED.of hp (h sl S σ F R H hs hr _ (Post.bind post fun ds S1 vs F1 R1 H1 _ rx rep1 s1 r1 post1 => liftA_post hb rx rep1 post1))
theorem ej_callB {id : String} {r : List V → Hp → VK → Prop} {f : List P → Option P} {ma : MA} (hc : CallR C.X (.builtin id) r) (hb : CallV C.K r f) (hm : C.X.mg x = none) (hv : bootBuiltins x = some (.builtin id)) (h : Aj C ma (e :: es)) (hg : Gl C.X x := by rfl) (hn : x ≠ "__name__" := by decide) (hdb : (x == ("__debug__" : Str)) = false := by decide)
    (he : starEach (e :: es) C.X.env = (false, eval e C.X.env) :: starEach es C.X.env := by exact se_of rfl) (hpl : (backTo pos (starEach es C.X.env)).any (·.1) = false := by exact pl_of rfl) : Ej C (eF f ma) (.Call (.Name x p) (e :: es) [] pos) :=
  ej_cb (pe_callB hc hg hm hv pa_d hn hdb he hpl) hb h
theorem ej_callTy {N : String} {r : List V → Hp → VK → Prop} {f : List P → Option P} {ma : MA} (hc : CallR C.X (.type N) r) (hb : CallV C.K r f) (hm : C.X.mg x = none) (hv : bootBuiltins x = some (.type N)) (h : Aj C ma (e :: es)) (hg : Gl C.X x := by rfl) (hn : x ≠ "__name__" := by decide) (hdb : (x == ("__debug__" : Str)) = false := by decide)
    (he : starEach (e :: es) C.X.env = (false, eval e C.X.env) :: starEach es C.X.env := by exact se_of rfl) (hpl : (backTo pos (starEach es C.X.env)).any (·.1) = false := by exact pl_of rfl) : Ej C (eF f ma) (.Call (.Name x p) (e :: es) [] pos) :=
  ej_cb (pe_callTy hc hg hm hv pa_d hn hdb he hpl) hb h
end
/-! several readings of one operator -/
theorem OpR.or {X : Cx} {g : Value → Value → Sem Value} {r1 r2 : R2} (h1 : OpR X g r1) (h2 : OpR X g r2) : OpR X g (fun x y H Q => r1 x y H Q ∨ r2 x y H Q) := by
  intro pins s σ H x y v u Q I rx ry h
  rcases h with h | h
  · exact h1 pins s σ H x y v u Q I rx ry h
  · exact h2 pins s σ H x y v u Q I rx ry h
theorem IxR.or {X : Cx} {r1 r2 : R2} (h1 : IxR X r1) (h2 : IxR X r2) : IxR X (fun x y H Q => r1 x y H Q ∨ r2 x y H Q) := by
  intro value slice pins s σ H x y v u Q I rx ry h hs
  rcases h with h | h
  · exact h1 value slice pins s σ H x y v u Q I rx ry h hs
  · exact h2 value slice pins s σ H x y v u Q I rx ry h hs
theorem CallR.or {X : Cx} {f : Value} {r1 r2 : List V → Hp → VK → Prop} (h1 : CallR X f r1) (h2 : CallR X f r2) : CallR X f (fun xs H Q => r1 xs H Q ∨ r2 xs H Q) := by
  intro pins s σ H xs us Q I rx h
  rcases h with h | h
  · exact h1 pins s σ H xs us Q I rx h
  · exact h2 pins s σ H xs us Q I rx h
end Z

namespace Z
open PySem PySem.Spec PyProof.Rows L2
/-! ### operators on what stands still -/
def opAdd : P → P → Option P
  | .int m, .int n => some (.int (m + n))
  | .str x, .str y => if x.length + y.length ≤ sizeLine then some (.str (x ++ y)) else none
  | .lst xs, .lst ys => if xs.length + ys.length ≤ sizeLine then some (.lst (xs ++ ys)) else none
  | .tup xs, .tup ys => if xs.length + ys.length ≤ sizeLine then some (.tup (xs ++ ys)) else none
  | _, _ => none
def opSub : P → P → Option P
  | .int m, .int n => some (.int (m - n))
  | _, _ => none
instance (i j : Int) : Decidable (CMul i j) := by unfold CMul; infer_instance
instance (i j : Int) : Decidable (CDiv i j) := by unfold CDiv; infer_instance
instance (i j : Int) : Decidable (CPow i j) := by unfold CPow; infer_instance
def opMul : P → P → Option P
  | .int m, .int n => if CMul m n then some (.int (m * n)) else none
  | .lst xs, .int n => if (-(2 ^ 63) ≤ n ∧ n < 2 ^ 63) ∧ xs.length * n.toNat ≤ sizeLine then some (.lst (List.replicate n.toNat xs).flatten) else none
  | _, _ => none
def opMod : P → P → Option P
  | .int m, .int n => if 0 < n then some (.int (m % n)) else none
  | _, _ => none
def opDiv : P → P → Option P
  | .int m, .int n => if CDiv m n then some (.int (m / n)) else none
  | _, _ => none
def opPow : P → P → Option P
  | .int m, .int n => if CPow m n then some (.int (m ^ n.toNat)) else none
  | _, _ => none
def opShl : P → P → Option P
  | .int m, .int n => if CPow m n then some (.int (m * 2 ^ n.toNat)) else none
  | _, _ => none
def opShr : P → P → Option P
  | .int m, .int n => if 0 ≤ n then some (.int (m / 2 ^ n.toNat)) else none
  | _, _ => none
def opBand : P → P → Option P
  | .int m, .int n => some (.int (Builtin.bitAnd m n))
  | _, _ => none
def opBor : P → P → Option P
  | .int m, .int n => some (.int (Builtin.bitOr m n))
  | _, _ => none
section
variable {K : Fr}
theorem bv_I0 {g : Int → Int → V} {h : Int → Int → P} {f : P → P → Option P} (hf : ∀ p q z, f p q = some z → ∃ m n, p = .int m ∧ q = .int n ∧ z = h m n) (hd : ∀ m n F, Rp K F (g m n) (h m n)) : BinV K (rI0 g) f := fun p q z x y F H Q e hx hy s k => by
  obtain ⟨m, n, rfl, rfl, rfl⟩ := hf _ _ _ e
  exact ⟨m, n, hx.int, hy.int, k _ F H (hd m n F) (Grow.refl s)⟩
theorem bv_I {c : Int → Int → Prop} {g : Int → Int → V} {h : Int → Int → P} {f : P → P → Option P} (hf : ∀ p q z, f p q = some z → ∃ m n, p = .int m ∧ q = .int n ∧ c m n ∧ z = h m n) (hd : ∀ m n F, Rp K F (g m n) (h m n)) : BinV K (rI c g) f := fun p q z x y F H Q e hx hy s k => by
  obtain ⟨m, n, rfl, rfl, hc, rfl⟩ := hf _ _ _ e
  exact ⟨m, n, hx.int, hy.int, hc, k _ F H (hd m n F) (Grow.refl s)⟩
theorem if_some {c : Prop} [Decidable c] {α : Type} {a z : α} (h : (if c then some a else none) = some z) : c ∧ z = a := by
  split at h
  · rename_i hc; cases h; exact ⟨hc, rfl⟩
  · cases h
def rAddZ (K : PySem.W.Frag) : R2 := fun x y H Q => (rI0 fun i j => .int (i + j)) x y H Q ∨ (fun x y H Q => ∃ i j : Str, x = .str i ∧ y = .str j ∧ i.length + j.length ≤ sizeLine ∧ Q (.str (i ++ j)) H) x y H Q ∨ rCat x y H Q ∨ rCatA K x y H Q
theorem or_add {X : Cx} : OpR X (binaryOp .Add) (rAddZ X.K) := OpR.or op_add (OpR.or op_add_str (OpR.or op_cat op_catA))
theorem bv_add : BinV K (rAddZ K.K) opAdd := fun p q z x y F H Q e hx hy s k => by
  unfold opAdd at e
  split at e
  · cases e
    exact .inl ⟨_, _, hx.int, hy.int, k _ F H (.int _) (Grow.refl s)⟩
  · obtain ⟨hc, rfl⟩ := if_some e
    exact .inr (.inl ⟨_, _, hx.str, hy.str, hc, k _ F H (.str _) (Grow.refl s)⟩)
  · obtain ⟨hc, rfl⟩ := if_some e
    obtain ⟨a, vs, rfl, h1, h2⟩ := hx.lstE s
    obtain ⟨b, ws, rfl, h3, h4⟩ := hy.lstE s
    refine .inr (.inr (.inl ⟨a, b, vs, ws, rfl, rfl, h1, h3, by rw [h2.length, h4.length]; exact hc, fun p hp => ?_⟩))
    have g := Grow.new (o := .lst (vs ++ ws)) s hp
    exact k _ _ _ (.lst upd_same ((RpAll.mono g.sF _ _ h2).append (RpAll.mono g.sF _ _ h4))) g
  · obtain ⟨hc, rfl⟩ := if_some e
    have hx' := hx.tupP
    have hy' := hy.tupP
    obtain ⟨a, vs, rfl, h1, h2⟩ := hx.tupE
    obtain ⟨b, ws, rfl, h3, h4⟩ := hy.tupE
    refine .inr (.inr (.inr ⟨a, b, vs, ws, rfl, rfl, same_sqT s h1, same_sqT s h3, by rw [h2.length, h4.length]; exact hc, fun e => ?_, fun _ e => ?_, fun _ _ l hn => ?_⟩))
    · subst e; cases h2; exact k _ F H hy' (Grow.refl s)
    · subst e; cases h4; exact k _ F H (by rw [List.append_nil]; exact hx') (Grow.refl s)
    · have g := Grow.new (o := .tup (vs ++ ws)) s hn
      exact k _ _ _ (.tup upd_same ((RpAll.mono g.sF _ _ h2).append (RpAll.mono g.sF _ _ h4))) g
  · cases e
theorem bv_sub : BinV K (rI0 fun i j => .int (i - j)) opSub := bv_I0 (h := fun i j => .int (i - j)) (fun p q z e => by unfold opSub at e; split at e <;> cases e; exact ⟨_, _, rfl, rfl, rfl⟩) fun _ _ _ => .int _
def rMulZ : R2 := fun x y H Q => (rI CMul fun i j => .int (i * j)) x y H Q ∨ rRep x y H Q
theorem or_mul {X : Cx} : OpR X (binaryOp .Mult) rMulZ := OpR.or op_mul op_rep
theorem rp_rep {F : Hp} {vs : List V} {ps : List P} (h : RpAll K F vs ps) : ∀ n : Nat, RpAll K F (List.replicate n vs).flatten (List.replicate n ps).flatten
  | 0 => .nil
  | n + 1 => by
    rw [List.replicate_succ, List.replicate_succ, List.flatten_cons, List.flatten_cons]
    exact h.append (rp_rep h n)
theorem bv_mul : BinV K rMulZ opMul := fun p q z x y F H Q e hx hy s k => by
  unfold opMul at e
  split at e
  · obtain ⟨hc, rfl⟩ := if_some e
    exact .inl ⟨_, _, hx.int, hy.int, hc, k _ F H (.int _) (Grow.refl s)⟩
  · obtain ⟨⟨hc1, hc2⟩, rfl⟩ := if_some e
    obtain ⟨a, vs, rfl, h1, h2⟩ := hx.lstE s
    refine .inr ⟨a, _, vs, rfl, hy.int, h1, hc1.1, hc1.2, by rw [h2.length]; exact hc2, fun p hp => ?_⟩
    exact k _ _ _ (.lst upd_same (rp_rep (RpAll.mono (Grow.new s hp).sF _ _ h2) _)) (Grow.new s hp)
  · cases e
theorem bv_mod : BinV K (rI (fun _ j => 0 < j) fun i j => .int (i % j)) opMod := bv_I (h := fun i j => .int (i % j)) (fun p q z e => by
  unfold opMod at e; split at e
  · obtain ⟨hc, rfl⟩ := if_some e; exact ⟨_, _, rfl, rfl, hc, rfl⟩
  · cases e) fun _ _ _ => .int _
theorem bv_div : BinV K (rI CDiv fun i j => .int (i / j)) opDiv := bv_I (h := fun i j => .int (i / j)) (fun p q z e => by
  unfold opDiv at e; split at e
  · obtain ⟨hc, rfl⟩ := if_some e; exact ⟨_, _, rfl, rfl, hc, rfl⟩
  · cases e) fun _ _ _ => .int _
theorem bv_pow : BinV K (rI CPow fun i j => .int (i ^ j.toNat)) opPow := bv_I (h := fun i j => .int (i ^ j.toNat)) (fun p q z e => by
  unfold opPow at e; split at e
  · obtain ⟨hc, rfl⟩ := if_some e; exact ⟨_, _, rfl, rfl, hc, rfl⟩
  · cases e) fun _ _ _ => .int _
theorem bv_shl : BinV K (rI CPow fun i j => .int (i * 2 ^ j.toNat)) opShl := bv_I (h := fun i j => .int (i * 2 ^ j.toNat)) (fun p q z e => by
  unfold opShl at e; split at e
  · obtain ⟨hc, rfl⟩ := if_some e; exact ⟨_, _, rfl, rfl, hc, rfl⟩
  · cases e) fun _ _ _ => .int _
theorem bv_shr : BinV K (rI (fun _ j => 0 ≤ j) fun i j => .int (i / 2 ^ j.toNat)) opShr := bv_I (h := fun i j => .int (i / 2 ^ j.toNat)) (fun p q z e => by
  unfold opShr at e; split at e
  · obtain ⟨hc, rfl⟩ := if_some e; exact ⟨_, _, rfl, rfl, hc, rfl⟩
  · cases e) fun _ _ _ => .int _
theorem bv_band : BinV K (rI0 fun i j => .int (Builtin.bitAnd i j)) opBand := bv_I0 (h := fun i j => .int (Builtin.bitAnd i j)) (fun p q z e => by unfold opBand at e; split at e <;> cases e; exact ⟨_, _, rfl, rfl, rfl⟩) fun _ _ _ => .int _
theorem bv_bor : BinV K (rI0 fun i j => .int (Builtin.bitOr i j)) opBor := bv_I0 (h := fun i j => .int (Builtin.bitOr i j)) (fun p q z e => by unfold opBor at e; split at e <;> cases e; exact ⟨_, _, rfl, rfl, rfl⟩) fun _ _ _ => .int _

/-! ### comparisons -/
def opEq (p q : P) : Option P := if fin dpt p = true ∧ fin dpt q = true then some (.bl (eqv p q)) else none
def opNe (p q : P) : Option P := if fin dpt p = true ∧ fin dpt q = true then some (.bl (!eqv p q)) else none
theorem bv_eq : BinV K (rEqD K.K) opEq := fun p q z x y F H Q e hx hy s k => by
  obtain ⟨⟨h1, h2⟩, rfl⟩ := if_some e
  refine ⟨py p, py q, rp_dp _ _ _ h1 (hx.rd s), rp_dp _ _ _ h2 (hy.rd s), fin_shaped h1, fin_shaped h2, ?_⟩
  rw [fin_py dpt p q h1 h2]
  exact k _ F H (.bl _) (Grow.refl s)
theorem bv_ne : BinV K (rNeD K.K) opNe := fun p q z x y F H Q e hx hy s k => by
  obtain ⟨⟨h1, h2⟩, rfl⟩ := if_some e
  refine ⟨py p, py q, rp_dp _ _ _ h1 (hx.rd s), rp_dp _ _ _ h2 (hy.rd s), fin_shaped h1, fin_shaped h2, ?_⟩
  rw [fin_py dpt p q h1 h2]
  exact k _ F H (.bl _) (Grow.refl s)
def cmpI (g : Int → Int → Bool) : P → P → Option P
  | .int m, .int n => some (.bl (g m n))
  | _, _ => none
theorem bv_cmpI {g : Int → Int → Bool} : BinV K (rI0 fun i j => .bl (g i j)) (cmpI g) := bv_I0 (h := fun i j => .bl (g i j)) (fun p q z e => by unfold cmpI at e; split at e <;> cases e; exact ⟨_, _, rfl, rfl, rfl⟩) fun _ _ _ => .bl _
abbrev opLt := cmpI fun i j => decide (i < j)
abbrev opLe := cmpI fun i j => decide (i ≤ j)
abbrev opGt := cmpI fun i j => decide (j < i)
abbrev opGe := cmpI fun i j => decide (j ≤ i)
def isNon : P → Bool
  | .non => true
  | _ => false
def opIsN (p : P) : P → Option P
  | .non => some (.bl (isNon p))
  | .bl b => match p with
    | .bl c => some (.bl (c == b))
    | _ => none
  | _ => none
theorem isN_vw {F H : Hp} {v : V} {p : P} (h : Vw K F H v p) : decide (v = .non) = (isNon p) := by
  cases h with
  | p h => cases h <;> rfl
  | lst => rfl
  | dicK => rfl
  | dicN => rfl
  | ins => rfl
def rIsZ : R2 := fun x y H Q => (fun x y H Q => y = .non ∧ Q (.bl (decide (x = .non))) H) x y H Q ∨ rIsB x y H Q
theorem or_is {X : Cx} : OpR X (compareOp .Is) rIsZ := OpR.or op_isN op_isBl
theorem bv_is : BinV K rIsZ opIsN := fun p q z x y F H Q e hx hy s k => by
  unfold opIsN at e
  split at e
  · cases e
    exact .inl ⟨hy.non, k _ F H (by rw [isN_vw hx]; exact .bl _) (Grow.refl s)⟩
  · split at e
    · cases e
      rename_i b c
      cases hx.bl; cases hy.bl
      exact .inr ⟨_, _, rfl, rfl, k _ F H (by cases b <;> cases c <;> exact .bl _) (Grow.refl s)⟩
    · cases e
  · cases e
def opNotN (p : P) : P → Option P
  | .non => some (.bl (!isNon p))
  | .bl b => match p with
    | .bl c => some (.bl (c != b))
    | _ => none
  | _ => none
def rNotZ : R2 := fun x y H Q => (fun x y H Q => y = .non ∧ Q (.bl (!decide (x = .non))) H) x y H Q ∨ rNotB x y H Q
theorem or_isnt {X : Cx} : OpR X (compareOp .IsNot) rNotZ := OpR.or op_notN op_notBl
theorem bv_isnt : BinV K rNotZ opNotN := fun p q z x y F H Q e hx hy s k => by
  unfold opNotN at e
  split at e
  · cases e
    exact .inl ⟨hy.non, k _ F H (by rw [isN_vw hx]; exact .bl _) (Grow.refl s)⟩
  · split at e
    · cases e
      rename_i b c
      cases hx.bl; cases hy.bl
      exact .inr ⟨_, _, rfl, rfl, k _ F H (by cases b <;> cases c <;> exact .bl _) (Grow.refl s)⟩
    · cases e
  · cases e
/-! in -/
def opIn : P → P → Option P
  | p, .lst qs => if fin dpt p = true ∧ fin dpt (.lst qs) = true then some (.bl (qs.any fun z => eqv z p)) else none
  | p, .tup qs => if fin dpt p = true ∧ fin dpt (.tup qs) = true then some (.bl (qs.any fun z => eqv z p)) else none
  | .str x, .str y => some (.bl (!(Builtin.Str.occurrences y x 0 y.length 1).isEmpty))
  | _, _ => none
def notP : Option P → Option P
  | some (.bl b) => some (.bl !b)
  | _ => none
def opNotIn (p q : P) : Option P := notP (opIn p q)
def rInDT (K : PySem.W.Frag) : R2 := fun x y H Q => ∃ d ds, Dp K H x d ∧ Dp K H y (.tuple ds) ∧ SeqAt.shaped d = true ∧ SeqAt.shaped (.tuple ds) = true ∧ Q (.bl (ds.any fun z => PyData.eqv z d)) H
def rNotInDT (K : PySem.W.Frag) : R2 := fun x y H Q => ∃ d ds, Dp K H x d ∧ Dp K H y (.tuple ds) ∧ SeqAt.shaped d = true ∧ SeqAt.shaped (.tuple ds) = true ∧ Q (.bl (!ds.any fun z => PyData.eqv z d)) H
theorem op_inDT {X : Cx} (hu : X.A.units + 65 < cLine) : OpR X (compareOp .In) (rInDT X.K) := by
  intro pins s σ H x y v u Q I rx ry h
  obtain ⟨d, ds, hd, he, sd, se, q⟩ := h
  obtain ⟨as, r1⟩ := Dp.reads I d x v hd rx
  obtain ⟨bs, r2⟩ := Dp.reads I (.tuple ds) y u he ry
  exact SeqAt.in_tuple_reads r2 r1 (SeqAt.canLay_of_shaped se) (SeqAt.canLay_of_shaped sd) (room_in_shaped sd hu) ⟨.bl _, H, I, rfl, q⟩
theorem op_notInDT {X : Cx} (hu : X.A.units + 65 < cLine) : OpR X (compareOp .NotIn) (rNotInDT X.K) := by
  intro pins s σ H x y v u Q I rx ry h
  obtain ⟨d, ds, hd, he, sd, se, q⟩ := h
  obtain ⟨as, r1⟩ := Dp.reads I d x v hd rx
  obtain ⟨bs, r2⟩ := Dp.reads I (.tuple ds) y u he ry
  exact SeqAt.notIn_tuple_reads r2 r1 (SeqAt.canLay_of_shaped se) (SeqAt.canLay_of_shaped sd) (room_in_shaped sd hu) ⟨.bl _, H, I, rfl, q⟩
theorem any_py {p : P} (hp : fin dpt p = true) : ∀ {qs : List P}, (∀ q ∈ qs, fin dpt q = true) → ((pyAll qs).any fun z => PyData.eqv z (py p)) = qs.any fun z => eqv z p
  | [], _ => rfl
  | q :: qs, h => by
    simp only [pyAll, List.any_cons]
    rw [fin_py dpt q p (h q (List.mem_cons_self ..)) hp, any_py hp fun z hz => h z (List.mem_cons_of_mem _ hz)]
theorem fin_mono : ∀ {n m : Nat} {d : P}, fin n d = true → n ≤ m → fin m d = true := by
  intro n
  induction n with
  | zero =>
    intro m d h _
    cases d <;> first | (cases h; done) | skip
    all_goals (cases m <;> exact h)
  | succ n ih =>
    intro m d h hm
    cases m with
    | zero => omega
    | succ m =>
      cases d <;> first | (cases h; done) | skip
      all_goals first
        | exact h
        | exact List.all_eq_true.mpr fun x hx => ih (List.all_eq_true.mp h x hx) (by omega)
def rInZ (K : PySem.W.Frag) : R2 := fun x y H Q => rInD K x y H Q ∨ rInDT K x y H Q ∨ (fun x y H Q => ∃ i j : Str, x = .str i ∧ y = .str j ∧ Q (.bl (!(Builtin.Str.occurrences j i 0 j.length 1).isEmpty)) H) x y H Q
theorem or_in {X : Cx} (hu : X.A.units + 65 < cLine) : OpR X (compareOp .In) (rInZ X.K) := OpR.or (op_inD hu) (OpR.or (op_inDT hu) op_in_str)
theorem bv_in : BinV K (rInZ K.K) opIn := fun p q z x y F H Q e hx hy s k => by
  unfold opIn at e
  split at e
  · rename_i qs
    obtain ⟨⟨h1, h2⟩, rfl⟩ := if_some e
    have all := List.all_eq_true.mp (show qs.all (fin 23) = true from h2)
    refine .inl ⟨py p, pyAll qs, rp_dp _ _ _ h1 (hx.rd s), rp_dp _ _ _ h2 (hy.rd s), fin_shaped h1, fin_shaped h2, ?_⟩
    rw [any_py h1 fun q hq => fin_mono (all q hq) (by decide)]
    exact k _ F H (.bl _) (Grow.refl s)
  · rename_i qs
    obtain ⟨⟨h1, h2⟩, rfl⟩ := if_some e
    have all := List.all_eq_true.mp (show qs.all (fin 23) = true from h2)
    refine .inr (.inl ⟨py p, pyAll qs, rp_dp _ _ _ h1 (hx.rd s), rp_dp _ _ _ h2 (hy.rd s), fin_shaped h1, fin_shaped h2, ?_⟩)
    rw [any_py h1 fun q hq => fin_mono (all q hq) (by decide)]
    exact k _ F H (.bl _) (Grow.refl s)
  · cases e
    exact .inr (.inr ⟨_, _, hx.str, hy.str, k _ F H (.bl _) (Grow.refl s)⟩)
  · cases e
def rNotInZ (K : PySem.W.Frag) : R2 := fun x y H Q => rNotInD K x y H Q ∨ rNotInDT K x y H Q ∨ (fun x y H Q => ∃ i j : Str, x = .str i ∧ y = .str j ∧ Q (.bl (!(!(Builtin.Str.occurrences j i 0 j.length 1).isEmpty))) H) x y H Q
theorem or_notin {X : Cx} (hu : X.A.units + 65 < cLine) : OpR X (compareOp .NotIn) (rNotInZ X.K) := OpR.or (op_notInD hu) (OpR.or (op_notInDT hu) op_notin_str)
theorem bv_notin : BinV K (rNotInZ K.K) opNotIn := fun p q z x y F H Q e hx hy s k => by
  unfold opNotIn opIn at e
  split at e
  · rename_i qs
    split at e
    · rename_i hc
      obtain ⟨h1, h2⟩ := hc
      cases e
      have all := List.all_eq_true.mp (show qs.all (fin 23) = true from h2)
      refine .inl ⟨py p, pyAll qs, rp_dp _ _ _ h1 (hx.rd s), rp_dp _ _ _ h2 (hy.rd s), fin_shaped h1, fin_shaped h2, ?_⟩
      rw [any_py h1 fun q hq => fin_mono (all q hq) (by decide)]
      exact k _ F H (.bl _) (Grow.refl s)
    · cases e
  · rename_i qs
    split at e
    · rename_i hc
      obtain ⟨h1, h2⟩ := hc
      cases e
      have all := List.all_eq_true.mp (show qs.all (fin 23) = true from h2)
      refine .inr (.inl ⟨py p, pyAll qs, rp_dp _ _ _ h1 (hx.rd s), rp_dp _ _ _ h2 (hy.rd s), fin_shaped h1, fin_shaped h2, ?_⟩)
      rw [any_py h1 fun q hq => fin_mono (all q hq) (by decide)]
      exact k _ F H (.bl _) (Grow.refl s)
    · cases e
  · cases e
    exact .inr (.inr ⟨_, _, hx.str, hy.str, k _ F H (.bl _) (Grow.refl s)⟩)
  · cases e
end
end Z

namespace Z
open PySem PySem.Spec PyProof.Rows L2
section
variable {C : Kx} {a b c e : Expr} {es rest : List Expr} {pos p : Pos} {x : Str} {m m1 m2 m3 : M} {t t1 t2 : MT} {ma : MA} {K : Fr}
/-! ### by operators -/
theorem ej_add (h1 : Ej C m1 a) (h2 : Ej C m2 b) : Ej C (eB opAdd m1 m2) (.BinOp a .Add b pos) := ej_bin or_add bv_add h1 h2
theorem ej_sub (h1 : Ej C m1 a) (h2 : Ej C m2 b) : Ej C (eB opSub m1 m2) (.BinOp a .Sub b pos) := ej_bin op_sub bv_sub h1 h2
theorem ej_mul (h1 : Ej C m1 a) (h2 : Ej C m2 b) : Ej C (eB opMul m1 m2) (.BinOp a .Mult b pos) := ej_bin or_mul bv_mul h1 h2
theorem ej_mod (h1 : Ej C m1 a) (h2 : Ej C m2 b) : Ej C (eB opMod m1 m2) (.BinOp a .Mod b pos) := ej_bin op_mod bv_mod h1 h2
theorem ej_fdiv (h1 : Ej C m1 a) (h2 : Ej C m2 b) : Ej C (eB opDiv m1 m2) (.BinOp a .FloorDiv b pos) := ej_bin op_fdiv bv_div h1 h2
theorem ej_pow (h1 : Ej C m1 a) (h2 : Ej C m2 b) : Ej C (eB opPow m1 m2) (.BinOp a .Pow b pos) := ej_bin op_pow bv_pow h1 h2
theorem ej_shl (h1 : Ej C m1 a) (h2 : Ej C m2 b) : Ej C (eB opShl m1 m2) (.BinOp a .LShift b pos) := ej_bin op_shl bv_shl h1 h2
theorem ej_shr (h1 : Ej C m1 a) (h2 : Ej C m2 b) : Ej C (eB opShr m1 m2) (.BinOp a .RShift b pos) := ej_bin op_shr bv_shr h1 h2
theorem ej_band (h1 : Ej C m1 a) (h2 : Ej C m2 b) : Ej C (eB opBand m1 m2) (.BinOp a .BitAnd b pos) := ej_bin op_and bv_band h1 h2
theorem ej_bor (h1 : Ej C m1 a) (h2 : Ej C m2 b) : Ej C (eB opBor m1 m2) (.BinOp a .BitOr b pos) := ej_bin op_or bv_bor h1 h2
abbrev Mk (op : CmpOp) (b : Expr) : Prop := behindInMarks op b = false
theorem ej_eq (hu : C.X.A.units + 64 < cLine) (h1 : Ej C m1 a) (h2 : Ej C m2 b) (hm : Mk .Eq b := by first | exact nomark _ | rfl) : Ej C (eB opEq m1 m2) (.Compare a [.Eq] [b] pos) := ej_cmp (op_eqD hu) bv_eq h1 h2 hm
theorem ej_ne (hu : C.X.A.units + 64 < cLine) (h1 : Ej C m1 a) (h2 : Ej C m2 b) (hm : Mk .NotEq b := by first | exact nomark _ | rfl) : Ej C (eB opNe m1 m2) (.Compare a [.NotEq] [b] pos) := ej_cmp (op_neD hu) bv_ne h1 h2 hm
theorem ej_lt (h1 : Ej C m1 a) (h2 : Ej C m2 b) (hm : Mk .Lt b := by first | exact nomark _ | rfl) : Ej C (eB opLt m1 m2) (.Compare a [.Lt] [b] pos) := ej_cmp op_lt bv_cmpI h1 h2 hm
theorem ej_le (h1 : Ej C m1 a) (h2 : Ej C m2 b) (hm : Mk .LtE b := by first | exact nomark _ | rfl) : Ej C (eB opLe m1 m2) (.Compare a [.LtE] [b] pos) := ej_cmp op_le bv_cmpI h1 h2 hm
theorem ej_gt (h1 : Ej C m1 a) (h2 : Ej C m2 b) (hm : Mk .Gt b := by first | exact nomark _ | rfl) : Ej C (eB opGt m1 m2) (.Compare a [.Gt] [b] pos) := ej_cmp op_gt bv_cmpI h1 h2 hm
theorem ej_ge (h1 : Ej C m1 a) (h2 : Ej C m2 b) (hm : Mk .GtE b := by first | exact nomark _ | rfl) : Ej C (eB opGe m1 m2) (.Compare a [.GtE] [b] pos) := ej_cmp op_ge bv_cmpI h1 h2 hm
theorem ej_is (h1 : Ej C m1 a) (h2 : Ej C m2 b) (hm : Mk .Is b := by first | exact nomark _ | rfl) : Ej C (eB opIsN m1 m2) (.Compare a [.Is] [b] pos) := ej_cmp or_is bv_is h1 h2 hm
theorem ej_isnt (h1 : Ej C m1 a) (h2 : Ej C m2 b) (hm : Mk .IsNot b := by first | exact nomark _ | rfl) : Ej C (eB opNotN m1 m2) (.Compare a [.IsNot] [b] pos) := ej_cmp or_isnt bv_isnt h1 h2 hm
theorem ej_in (hu : C.X.A.units + 65 < cLine) (h1 : Ej C m1 a) (h2 : Ej C m2 b) (hm : Mk .In b := by first | exact nomark _ | rfl) : Ej C (eB opIn m1 m2) (.Compare a [.In] [b] pos) := ej_cmp (or_in hu) bv_in h1 h2 hm
theorem ej_notin (hu : C.X.A.units + 65 < cLine) (h1 : Ej C m1 a) (h2 : Ej C m2 b) (hm : Mk .NotIn b := by first | exact nomark _ | rfl) : Ej C (eB opNotIn m1 m2) (.Compare a [.NotIn] [b] pos) := ej_cmp (or_notin hu) bv_notin h1 h2 hm
theorem tj_eq (hu : C.X.A.units + 64 < cLine) (h1 : Ej C m1 a) (h2 : Ej C m2 b) (hm : Mk .Eq b := by first | exact nomark _ | rfl) : Tj C (tB opEq m1 m2) (.Compare a [.Eq] [b] pos) := tj_cmp (op_eqD hu) bv_eq h1 h2 hm
theorem tj_ne (hu : C.X.A.units + 64 < cLine) (h1 : Ej C m1 a) (h2 : Ej C m2 b) (hm : Mk .NotEq b := by first | exact nomark _ | rfl) : Tj C (tB opNe m1 m2) (.Compare a [.NotEq] [b] pos) := tj_cmp (op_neD hu) bv_ne h1 h2 hm
theorem tj_lt (h1 : Ej C m1 a) (h2 : Ej C m2 b) (hm : Mk .Lt b := by first | exact nomark _ | rfl) : Tj C (tB opLt m1 m2) (.Compare a [.Lt] [b] pos) := tj_cmp op_lt bv_cmpI h1 h2 hm
theorem tj_le (h1 : Ej C m1 a) (h2 : Ej C m2 b) (hm : Mk .LtE b := by first | exact nomark _ | rfl) : Tj C (tB opLe m1 m2) (.Compare a [.LtE] [b] pos) := tj_cmp op_le bv_cmpI h1 h2 hm
theorem tj_gt (h1 : Ej C m1 a) (h2 : Ej C m2 b) (hm : Mk .Gt b := by first | exact nomark _ | rfl) : Tj C (tB opGt m1 m2) (.Compare a [.Gt] [b] pos) := tj_cmp op_gt bv_cmpI h1 h2 hm
theorem tj_ge (h1 : Ej C m1 a) (h2 : Ej C m2 b) (hm : Mk .GtE b := by first | exact nomark _ | rfl) : Tj C (tB opGe m1 m2) (.Compare a [.GtE] [b] pos) := tj_cmp op_ge bv_cmpI h1 h2 hm
theorem tj_is (h1 : Ej C m1 a) (h2 : Ej C m2 b) (hm : Mk .Is b := by first | exact nomark _ | rfl) : Tj C (tB opIsN m1 m2) (.Compare a [.Is] [b] pos) := tj_cmp or_is bv_is h1 h2 hm
theorem tj_isnt (h1 : Ej C m1 a) (h2 : Ej C m2 b) (hm : Mk .IsNot b := by first | exact nomark _ | rfl) : Tj C (tB opNotN m1 m2) (.Compare a [.IsNot] [b] pos) := tj_cmp or_isnt bv_isnt h1 h2 hm
theorem tj_in (hu : C.X.A.units + 65 < cLine) (h1 : Ej C m1 a) (h2 : Ej C m2 b) (hm : Mk .In b := by first | exact nomark _ | rfl) : Tj C (tB opIn m1 m2) (.Compare a [.In] [b] pos) := tj_cmp (or_in hu) bv_in h1 h2 hm
theorem tj_notin (hu : C.X.A.units + 65 < cLine) (h1 : Ej C m1 a) (h2 : Ej C m2 b) (hm : Mk .NotIn b := by first | exact nomark _ | rfl) : Tj C (tB opNotIn m1 m2) (.Compare a [.NotIn] [b] pos) := tj_cmp (or_notin hu) bv_notin h1 h2 hm
/-! -a -/
def lift1 (f : P → Option P) (d : D) (S : Store) : Rs D := match view S d with
  | some p => match f p with
    | some r => .ok (.p r) S
    | none => .no
  | none => .no
def eU (f : P → Option P) (m : M) : M := fun sl S => (m sl S).bind fun d S1 => lift1 f d S1
def opNeg : P → Option P
  | .int n => some (.int (-n))
  | _ => none
theorem ej_neg (h : Ej C m a) : Ej C (eU opNeg m) (.UnaryOp .USub a pos) := .mk fun sl S σ F R H hs hr Q post =>
  ED.of (pe_un un_neg pe_d) (h sl S σ F R H hs hr _ (Post.bind post fun d S1 x F1 R1 H1 _ rx rep1 s1 r1 post1 => by
    unfold lift1 at post1
    cases hv : view S1 d with
    | none => rw [hv] at post1; exact post1.elim
    | some q =>
      rw [hv] at post1
      cases q with
      | int n => exact ⟨n, (view_vw rx rep1 hv).int, post1.okv (show RelD C.K F1 R1 (.int (-n)) (.p (.int (-n))) from .int _) rep1⟩
      | _ => exact post1.elim))
/-! a < b <= c on ints -/
def asI (S : Store) (d : D) : Rs Int := match view S d with
  | some (.int i) => .ok i S
  | _ => .no
theorem asI_post {β : Type} {σ : L2.St} {F H : Hp} {R : List Addr} {S : Store} {d : D} {v : V} {rel : Hp → List Addr → β → D → Prop} {Q : β → Hp → Prop} {f : Int → Store → Rs D} (rv : RelD C.K F R v d) (rep : Rep C.K C.G F R S H) (post : Post C σ F R rel Q ((asI S d).bind f)) : ∃ i, v = .int i ∧ Post C σ F R rel Q (f i S) := by
  unfold asI at post
  cases hv : view S d with
  | none => rw [hv] at post; exact post.elim
  | some q =>
    rw [hv] at post
    cases q with
    | int n => exact ⟨n, (view_vw rv rep hv).int, post⟩
    | _ => exact post.elim
def eCh (f g : Int → Int → Bool) (m1 m2 m3 : M) : M := fun sl S => (m1 sl S).bind fun d1 S1 => (m2 sl S1).bind fun d2 S2 => (asI S2 d1).bind fun i S2 => (asI S2 d2).bind fun j S2 =>
  if f i j = true then (m3 sl S2).bind fun d3 S3 => (asI S3 d3).bind fun k S3 => .ok (.p (.bl (g j k))) S3 else .ok (.p (.bl false)) S2
theorem ej_chain {op op' : CmpOp} {f g : Int → Int → Bool} (ho : OpR C.X (compareOp op) (rI0 fun i j => .bl (f i j))) (ho' : OpR C.X (compareOp op') (rI0 fun i j => .bl (g i j))) (h1 : Ej C m1 a) (h2 : Ej C m2 b) (h3 : Ej C m3 c)
    (hm : lastMarks [op, op'] [b, c] = false := by with_unfolding_all rfl) : Ej C (eCh f g m1 m2 m3) (.Compare a [op, op'] [b, c] pos) := .mk fun sl S σ F R H hs hr Q post =>
  ED.of (pe_chain ho ho' pe_d pe_d pe_d hm) (h1 sl S σ F R H hs hr _ (Post.bind post fun d1 S1 x F1 R1 H1 _ rx rep1 s1 r1 post1 => h2 sl S1 σ F1 R1 H1 (hs.mono s1 r1) rep1 _ (Post.bind post1 fun d2 S2 y F2 R2 H2 _ ry rep2 s2 r2 post2 => by
    obtain ⟨i, rfl, post2⟩ := asI_post (rx.mono s2 r2) rep2 post2
    obtain ⟨j, rfl, post2⟩ := asI_post ry rep2 post2
    refine ⟨i, j, rfl, rfl, f i j, rfl, ?_⟩
    cases hf : f i j with
    | false =>
      rw [hf] at post2
      show Q (.bl false) H2
      exact Post.okv (show Post C σ F2 R2 (RelD C.K) Q (.ok (.p (.bl false)) S2) from post2) (show RelD C.K F2 R2 (.bl false) (.p (.bl false)) from .bl _) rep2
    | true =>
      rw [hf] at post2
      show ED C.X c σ H2 _
      have post2 : Post C σ F2 R2 (RelD C.K) Q ((m3 sl S2).bind fun d3 S3 => (asI S3 d3).bind fun k S3 => .ok (.p (.bl (g j k))) S3) := post2
      refine h3 sl S2 σ F2 R2 H2 ((hs.mono s1 r1).mono s2 r2) rep2 _ (Post.bind post2 fun d3 S3 z F3 R3 H3 _ rz rep3 s3 r3 post3 => ?_)
      obtain ⟨k, rfl, post3⟩ := asI_post rz rep3 post3
      exact ⟨j, k, rfl, rfl, post3.okv (show RelD C.K F3 R3 (.bl (g j k)) (.p (.bl (g j k))) from .bl _) rep3⟩)))
theorem ej_lele (h1 : Ej C m1 a) (h2 : Ej C m2 b) (h3 : Ej C m3 c) (hm : lastMarks [.LtE, .LtE] [b, c] = false := by with_unfolding_all rfl) : Ej C (eCh (fun i j => decide (i ≤ j)) (fun i j => decide (i ≤ j)) m1 m2 m3) (.Compare a [.LtE, .LtE] [b, c] pos) := ej_chain op_le op_le h1 h2 h3 hm
theorem ej_lelt (h1 : Ej C m1 a) (h2 : Ej C m2 b) (h3 : Ej C m3 c) (hm : lastMarks [.LtE, .Lt] [b, c] = false := by with_unfolding_all rfl) : Ej C (eCh (fun i j => decide (i ≤ j)) (fun i j => decide (i < j)) m1 m2 m3) (.Compare a [.LtE, .Lt] [b, c] pos) := ej_chain op_le op_lt h1 h2 h3 hm
theorem ej_ltlt (h1 : Ej C m1 a) (h2 : Ej C m2 b) (h3 : Ej C m3 c) (hm : lastMarks [.Lt, .Lt] [b, c] = false := by with_unfolding_all rfl) : Ej C (eCh (fun i j => decide (i < j)) (fun i j => decide (i < j)) m1 m2 m3) (.Compare a [.Lt, .Lt] [b, c] pos) := ej_chain op_lt op_lt h1 h2 h3 hm

/-! ### a[i] -/
def ixP : P → P → Option P
  | .lst ps, .int i => atI ps i
  | .tup ps, .int i => atI ps i
  | .str z, .int i => if z.length ≤ sizeLine then (atI z.cps.toList i).map (fun c => .str ⟨#[c]⟩) else none
  | .scr ns, .int i => (atI ns i).map .int
  | _, _ => none
theorem atI_rp {F : Hp} {ds : List P} {vs : List V} {k : Int} {d : P} (h : RpAll K F vs ds) (e : atI ds k = some d) : ∃ v, atI vs k = some v ∧ Rp K F v d := by
  unfold atI at e ⊢
  rw [h.length]
  cases hj : ixN ds.length k with
  | none => rw [hj] at e; cases e
  | some j =>
    rw [hj] at e
    obtain ⟨v, e1, e2⟩ := h.get' (i := j) (d := d) e
    exact ⟨v, e1, e2⟩
theorem atI_map {α β : Type} {f : α → β} {xs : List α} {i : Int} {y : α} (h : atI xs i = some y) : atI (xs.map f) i = some (f y) := by
  unfold atI at h ⊢
  rw [List.length_map]
  cases hj : ixN xs.length i with
  | none => rw [hj] at h; cases h
  | some j =>
    rw [hj] at h
    show (xs.map f)[j]? = _
    rw [List.getElem?_map, show xs[j]? = some y from h]
    rfl
def rIxZ (K : PySem.W.Frag) : R2 := fun x y H Q => rIxL K x y H Q ∨ rIxT K x y H Q ∨ rIxS x y H Q
theorem ix_z {X : Cx} : IxR X (rIxZ X.K) := IxR.or ix_list (IxR.or ix_tup ix_str)
theorem bv_ix : BinV K (rIxZ K.K) ixP := fun p q z x y F H Q e hx hy s k => by
  unfold ixP at e
  split at e
  · obtain ⟨a, vs, rfl, h1, h2⟩ := hx.lstE s
    obtain ⟨v, e1, e2⟩ := atI_rp h2 e
    exact .inl ⟨_, _, _, v, rfl, hy.int, .inl (.inl h1), e1, k _ F H e2 (Grow.refl s)⟩
  · obtain ⟨a, vs, rfl, h1, h2⟩ := hx.tupE
    obtain ⟨v, e1, e2⟩ := atI_rp h2 e
    exact .inr (.inl ⟨_, _, _, v, rfl, hy.int, same_sqT s h1, e1, k _ F H e2 (Grow.refl s)⟩)
  · rename_i z' i
    split at e
    · rename_i hz
      cases hc : atI z'.cps.toList i with
      | none => rw [hc] at e; cases e
      | some c =>
        rw [hc] at e; cases e
        exact .inr (.inr ⟨_, _, c, hx.str, hy.int, hz, hc, k _ F H (.str _) (Grow.refl s)⟩)
    · cases e
  · rename_i ns i
    cases hc : atI ns i with
    | none => rw [hc] at e; cases e
    | some n =>
      rw [hc] at e; cases e
      obtain ⟨a, rfl, h1⟩ := hx.scrE s
      exact .inl ⟨a, _, _, .int n, rfl, hy.int, h1, atI_map hc, k _ F H (.int _) (Grow.refl s)⟩
  · cases e
theorem ej_at (h1 : Ej C m1 a) (h2 : Ej C m2 b) (hs : PlainIx b := by exact fun _ _ => rfl) : Ej C (eB ixP m1 m2) (.Subscript a b pos) := ej_ix ix_z bv_ix h1 h2 hs

/-! ### a[i:j] -/
def cutD {α : Type} (ds : List α) (lo hi : Option Int) : List α := (ds.drop (HT.sIx ds.length 0 lo)).take (HT.sIx ds.length ds.length hi - HT.sIx ds.length 0 lo)
theorem cut_rp {F : Hp} {vs : List V} {ds : List P} {lo hi : Option Int} (h : RpAll K F vs ds) : RpAll K F (cutV vs lo hi) (cutD ds lo hi) := by
  unfold cutV cutD
  rw [h.length]
  exact (h.drop _).take _
theorem cutV_tup {F : Hp} {vs : List V} {ds : List P} {lo hi : Option Int} (h : RpAll K F vs ds) (hw : HT.sIx vs.length 0 lo = 0 ∧ HT.sIx vs.length vs.length hi = vs.length) : cutD ds lo hi = ds := by
  unfold cutD
  rw [h.length] at hw
  rw [hw.1, hw.2, List.drop_zero, Nat.sub_zero, List.take_length]
def slP (lo hi : Option Int) : P → Option P
  | .lst ps => some (.lst (cutD ps lo hi))
  | .tup ps => some (.tup (cutD ps lo hi))
  | .str z => if z.length ≤ sizeLine then some (.str (cutS z lo hi)) else none
  | .scr ns => some (.lst ((cutD ns lo hi).map .int))
  | _ => none
abbrev MO := Slots → Store → Rs (Option Int)
def oN : MO := fun _ S => .ok none S
def oS (m : M) : MO := fun sl S => (m sl S).bind fun d S1 => (asI S1 d).bind fun i S1 => .ok (some i) S1
def Oj (C : Kx) (m : MO) (o : Option Expr) : Prop := ∃ t, PO C.X o t ∧ ∀ sl S σ F R H, SlR C.K C.px F R σ sl → Rep C.K C.G F R S H → ∀ Q : Option Int → Hp → Prop, Post C σ F R (fun _ _ b a => b = a) Q (m sl S) → t σ H Q
theorem oj_none : Oj C oN none := ⟨_, po_none, fun sl S σ F R H hs hr Q post => post.okv rfl hr⟩
theorem oj_some (h : Ej C m e) : Oj C (oS m) (some e) := ⟨_, po_some pe_d, fun sl S σ F R H hs hr Q post => h sl S σ F R H hs hr _ (Post.bind post fun d S1 x F1 R1 H1 _ rx rep1 s1 r1 post1 => by
  unfold asI at post1
  cases hv : view S1 d with
  | none => rw [hv] at post1; exact post1.elim
  | some q =>
    rw [hv] at post1
    cases q with
    | int n => exact ⟨n, (view_vw rx rep1 hv).int, post1.okv (b := some n) rfl rep1⟩
    | _ => exact post1.elim)⟩
def eSl (m : M) (lo hi : MO) : M := fun sl S => (m sl S).bind fun d S1 => (lo sl S1).bind fun l S2 => (hi sl S2).bind fun h S3 => lift1 (slP l h) d S3
def rSlZ (K : PySem.W.Frag) : V → Option Int → Option Int → Hp → VK → Prop := fun x lo hi H Q => rSlL K x lo hi H Q ∨ rSlA K x lo hi H Q ∨ rSlS x lo hi H Q
theorem sl_z {X : Cx} : L2.SlR X (rSlZ X.K) := L2.SlR.or sl_list (L2.SlR.or sl_tupA sl_str)
theorem cutV_ints (ns : List Int) (lo hi : Option Int) : cutV (ns.map V.int) lo hi = (cutD ns lo hi).map V.int := by
  unfold cutV cutD
  rw [List.length_map, List.map_take, List.map_drop]
theorem rp_ints {F : Hp} : ∀ ns : List Int, RpAll K F (ns.map V.int) (ns.map P.int)
  | [] => .nil
  | n :: ns => .cons (.int n) (rp_ints ns)
theorem ej_slice {lo hi : Option Expr} {p2 : Pos} {ml mh : MO} (h : Ej C m a) (hl : Oj C ml lo) (hh : Oj C mh hi) : Ej C (eSl m ml mh) (.Subscript a (.Slice lo hi none p2) pos) := .mk fun sl S σ F R H hs hr Q post => by
  obtain ⟨tl, pl, kl⟩ := hl
  obtain ⟨th, ph, kh⟩ := hh
  refine ED.of (pe_slice sl_z pe_d pl ph) (h sl S σ F R H hs hr _ (Post.bind post fun d S1 x F1 R1 H1 _ rx rep1 s1 r1 post1 => kl sl S1 σ F1 R1 H1 (hs.mono s1 r1) rep1 _ (Post.bind post1 fun l S2 l' F2 R2 H2 _ rl rep2 s2 r2 post2 =>
    kh sl S2 σ F2 R2 H2 ((hs.mono s1 r1).mono s2 r2) rep2 _ (Post.bind post2 fun u S3 u' F3 R3 H3 _ ru rep3 s3 r3 post3 => ?_))))
  cases (show l' = l from rl)
  cases (show u' = u from ru)
  unfold lift1 at post3
  cases hv : view S3 d with
  | none => rw [hv] at post3; exact post3.elim
  | some q =>
    rw [hv] at post3
    have vw := view_vw ((rx.mono s2 r2).mono s3 r3) rep3 hv
    have s := rep3.sub
    cases q with
    | lst ps =>
      obtain ⟨a, vs, rfl, h1, h2⟩ := vw.lstE s
      refine .inl ⟨a, vs, rfl, .inl (.inl h1), fun p hn => ?_⟩
      have g := Grow.new (o := .lst (cutV vs l u)) s hn
      exact post3 _ _ R3 _ (show RelD C.K _ R3 _ (.p (.lst (cutD ps l u))) from .lst upd_same (RpAll.mono g.sF _ _ (cut_rp h2))) (rep3.grow g) g.sF pre_refl
    | tup ps =>
      have hp := vw.tupP
      obtain ⟨a, vs, rfl, h1, h2⟩ := vw.tupE
      refine .inr (.inl ⟨a, vs, rfl, same_sqT s h1, fun hw => ?_, fun hw p hn => ?_⟩)
      · exact post3 _ _ R3 _ (show RelD C.K _ R3 _ (.p (.tup (cutD ps l u))) from by rw [cutV_tup h2 hw]; exact hp) rep3 (Same.refl _) pre_refl
      · have g := Grow.new (o := .tup (cutV vs l u)) s hn
        exact post3 _ _ R3 _ (show RelD C.K _ R3 _ (.p (.tup (cutD ps l u))) from .tup upd_same (RpAll.mono g.sF _ _ (cut_rp h2))) (rep3.grow g) g.sF pre_refl
    | str z =>
      by_cases hz : z.length ≤ sizeLine
      · simp only [slP, if_pos hz] at post3
        exact .inr (.inr ⟨z, vw.str, hz, post3.okv (show RelD C.K F3 R3 _ (.p (.str (cutS z l u))) from .str _) rep3⟩)
      · simp only [slP, if_neg hz] at post3
        exact post3.elim
    | scr ns =>
      obtain ⟨a, rfl, h1⟩ := vw.scrE s
      refine .inl ⟨a, _, rfl, h1, fun p hn => ?_⟩
      rw [cutV_ints]
      have g := Grow.new (o := .lst ((cutD ns l u).map V.int)) s hn
      exact post3 _ _ R3 _ (show RelD C.K _ R3 _ (.p (.lst ((cutD ns l u).map .int))) from .lst upd_same (rp_ints _)) (rep3.grow g) g.sF pre_refl
    | _ => exact post3.elim

/-! ### displays -/
def eL (ma : MA) : M := fun sl S => (ma sl S).bind fun ds S1 => match pures ds with
  | some ps => if ps.length ≤ sizeLine then .ok (.p (.lst ps)) S1 else .no
  | none => .no
def eT (ma : MA) : M := fun sl S => (ma sl S).bind fun ds S1 => match pures ds with
  | some ps => if ps.length ≤ sizeLine then .ok (.p (.tup ps)) S1 else .no
  | none => .no
/-- a live list -/
def eLL (ma : MA) : M := fun sl S => (ma sl S).bind fun ds S1 => if ds.length ≤ sizeLine then .ok (.ref S1.length) (S1 ++ [.lst ds]) else .no
theorem ej_lst (h : Aj C ma es) : Ej C (eL ma) (.List es pos) := .mk fun sl S σ F R H hs hr Q post =>
  ED.of (pe_lst pa_d) (h sl S σ F R H hs hr _ (Post.bind post fun ds S1 vs F1 R1 H1 _ rx rep1 s1 r1 post1 => by
    cases hp : pures ds with
    | none => rw [hp] at post1; exact post1.elim
    | some ps =>
      rw [hp] at post1
      by_cases hl : ps.length ≤ sizeLine
      · simp only [if_pos hl] at post1
        have e := pures_eq hp
        subst e
        have rp := rx.to_p
        refine ⟨by rw [rp.length]; exact hl, fun l hn => ?_⟩
        have g := Grow.new (o := .lst vs) rep1.sub hn
        exact post1 _ _ R1 _ (show RelD C.K _ R1 _ (.p (.lst ps)) from .lst upd_same (RpAll.mono g.sF _ _ rp)) (rep1.grow g) g.sF pre_refl
      · simp only [if_neg hl] at post1; exact post1.elim))
theorem ej_tup {x1} (h : Aj C ma es) : Ej C (eT ma) (.Tuple es x1 pos) := .mk fun sl S σ F R H hs hr Q post =>
  ED.of (pe_tup pa_d) (h sl S σ F R H hs hr _ (Post.bind post fun ds S1 vs F1 R1 H1 _ rx rep1 s1 r1 post1 => by
    cases hp : pures ds with
    | none => rw [hp] at post1; exact post1.elim
    | some ps =>
      rw [hp] at post1
      by_cases hl : ps.length ≤ sizeLine
      · simp only [if_pos hl] at post1
        have e := pures_eq hp
        subst e
        have rp := rx.to_p
        refine ⟨by rw [rp.length]; exact hl, fun l hn => ?_⟩
        have g := Grow.new (o := .tup vs) rep1.sub hn
        exact post1 _ _ R1 _ (show RelD C.K _ R1 _ (.p (.tup ps)) from .tup upd_same (RpAll.mono g.sF _ _ rp)) (rep1.grow g) g.sF pre_refl
      · simp only [if_neg hl] at post1; exact post1.elim))
theorem last_get {R : List Addr} {a : Addr} {n : Nat} (h : R.length = n) : (R ++ [a])[n]? = some a := by
  rw [← h, List.getElem?_append_right (Nat.le_refl _), Nat.sub_self]; rfl
theorem ej_lstL (h : Aj C ma es) : Ej C (eLL ma) (.List es pos) := .mk fun sl S σ F R H hs hr Q post =>
  ED.of (pe_lst pa_d) (h sl S σ F R H hs hr _ (Post.bind post fun ds S1 vs F1 R1 H1 _ rx rep1 s1 r1 post1 => by
    by_cases hl : ds.length ≤ sizeLine
    · simp only [if_pos hl] at post1
      refine ⟨by rw [rx.length]; exact hl, fun l hn => ?_⟩
      exact post1 _ _ (R1 ++ [l]) _ (show RelD C.K _ _ _ (.ref S1.length) from ⟨l, last_get rep1.len, rfl⟩) (rep1.push1 hn (.lst (rx.mono (Same.refl _) pre_app))) (Same.refl _) pre_app
    · simp only [if_neg hl] at post1; exact post1.elim))
end
end Z

namespace Z
open PySem PySem.Spec PyProof.Rows L2
section
variable {C : Kx} {a b c e tg iter : Expr} {es rest : List Expr} {pos pos' p : Pos} {x : Str} {m m1 m2 m3 : M} {t t1 t2 : MT} {ma : MA} {K : Fr} {s1 s2 : MS} {st : Stmt} {ss : List Stmt} {i : Nat}
/-! ### statements -/
def sNil : MS := fun sl S => .nx sl S
def sSeq (m1 m2 : MS) : MS := fun sl S => match m1 sl S with
  | .nx sl' S' => m2 sl' S'
  | r => r
theorem sj_nil : Sj C sNil [] := .mk fun sl S σ F R H hs hr D post => SD.of pss_nil (post σ F R H hs hr (Same.refl _) pre_refl)
theorem sj_cons (h1 : Sj1 C s1 st) (h2 : Sj C s2 ss) : Sj C (sSeq s1 s2) (st :: ss) := .mk fun sl S σ F R H hs hr D post => by
  refine SD.of (pss_cons ps_d pss_d) (h1 sl S σ F R H hs hr _ ?_)
  unfold sSeq at post
  cases hr1 : s1 sl S with
  | nx sl' S' =>
    rw [hr1] at post
    exact fun σ' F' R' H' h1 h2' h3 h4 => h2 sl' S' σ' F' R' H' h1 h2' D (PostS.mono post h3 h4)
  | rt d S' => rw [hr1] at post; exact post
  | bk d S' => rw [hr1] at post; exact post
  | ct d S' => rw [hr1] at post; exact post
  | exc d l S' => rw [hr1] at post; exact post
  | no => rw [hr1] at post; exact post.elim
theorem sj_one (h : Sj1 C s1 st) : Sj C (sSeq s1 sNil) [st] := sj_cons h sj_nil
def sRet (m : M) : MS := fun sl S => (m sl S).st sl fun d S1 => .rt d S1
theorem sj_ret (h : Ej C m e) : Sj1 C (sRet m) (.Return (some e) pos) := .mk fun sl S σ F R H hs hr D post =>
  SD1.of (ps_ret pe_d) (h sl S σ F R H hs hr _ (PostS.bind post hs fun d S1 v F1 R1 H1 _ rv rep1 s1 r1 hs1 post1 => post1 v F1 R1 H1 rv rep1 (Same.refl _) pre_refl))
def sRetN : MS := fun sl S => .rt (.p .non) S
theorem sj_retN : Sj1 C sRetN (.Return none pos) := .mk fun sl S σ F R H hs hr D post => SD1.of ps_retN (post .non F R H .non hr (Same.refl _) pre_refl)
def sExpr (m : M) : MS := fun sl S => (m sl S).st sl fun _ S1 => .nx sl S1
theorem sj_expr (h : Ej C m e) (hw : swapsWith e none pos.line C.X.env = pure false := by rfl) : Sj1 C (sExpr m) (.Expr e pos) := .mk fun sl S σ F R H hs hr D post =>
  SD1.of (ps_expr pe_d hw) (h sl S σ F R H hs hr _ (PostS.bind post hs fun d S1 v F1 R1 H1 _ rv rep1 s1 r1 hs1 post1 => post1 σ F1 R1 H1 hs1 rep1 (Same.refl _) pre_refl))
theorem sj_doc {z : Str} {j} : Sj1 C sNil (.Expr (.Constant (.str z) j pos) pos') := .mk fun sl S σ F R H hs hr D post => SD1.of ps_doc (post σ F R H hs hr (Same.refl _) pre_refl)
theorem sj_pass : Sj1 C sNil (.Pass pos) := .mk fun sl S σ F R H hs hr D post => SD1.of ps_pass (post σ F R H hs hr (Same.refl _) pre_refl)
def sBk : MS := fun sl S => .bk sl S
def sCt : MS := fun sl S => .ct sl S
theorem sj_break : Sj1 C sBk (.Break pos) := .mk fun sl S σ F R H hs hr D post => SD1.of ps_break (post σ F R H hs hr (Same.refl _) pre_refl)
theorem sj_continue : Sj1 C sCt (.Continue pos) := .mk fun sl S σ F R H hs hr D post => SD1.of ps_continue (post σ F R H hs hr (Same.refl _) pre_refl)
def sIf (t : MT) (s1 s2 : MS) : MS := fun sl S => (t sl S).st sl fun b S1 => if b = true then s1 sl S1 else s2 sl S1
theorem sj_if {A B : List Stmt} (h : Tj C t c) (h1 : Sj C s1 A) (h2 : Sj C s2 B) : Sj1 C (sIf t s1 s2) (.If c A B pos) := .mk fun sl S σ F R H hs hr D post =>
  SD1.of (ps_if pt_d pss_d pss_d) (h sl S σ F R H hs hr _ (PostS.bind post hs fun k S1 k' F1 R1 H1 _ rk rep1 s1 r1 hs1 post1 => by
    cases (show k' = k from rk)
    cases k with
    | true =>
      show SD C.X A D σ H1
      exact h1 sl S1 σ F1 R1 H1 hs1 rep1 D post1
    | false =>
      show SD C.X B D σ H1
      exact h2 sl S1 σ F1 R1 H1 hs1 rep1 D post1))
def sSet (i : Nat) (m : M) : MS := fun sl S => (m sl S).st sl fun d S1 => .nx (sl.set i (some d)) S1
abbrev FnLoc (C : Kx) (x : Str) : Prop := C.X.fn x = true ∨ C.X.env.scope.names.lookup x = some .local
theorem sj_set {pos' : Pos} (i : Nat) (hN : C.X.N.Nodup) (h : Ej C m e) (hi : C.X.N[i]? = some x := by rfl) (hx : Loc C.X.env.scope x := by first | exact Or.inl rfl | exact Or.inr rfl) (hw : swapsWith e (some (.Name x pos')) pos.line C.X.env = pure false := by rfl)
    (hf : C.X.fn x = true ∨ C.X.env.scope.names.lookup x = some .local := by first | exact .inl rfl | exact .inr rfl) : Sj1 C (sSet i m) (.Assign [.Name x pos'] e pos) := .mk fun sl S σ F R H hs hr D post =>
  SD1.of (ps_set hN hi hx pe_d hw hf) (h sl S σ F R H hs hr _ (PostS.bind post hs fun d S1 v F1 R1 H1 _ rv rep1 s1 r1 hs1 post1 => post1 _ F1 R1 H1 (hs1.set rv) rep1 (Same.refl _) pre_refl))

/-! ### targets -/
abbrev Eff := P → Slots → Option Slots
def OffOnly (js : List Nat) (σ σ' : L2.St) : Prop := σ'.length = σ.length ∧ ∀ i : Nat, i ∉ js → σ'[i]? = σ[i]?
theorem OffOnly.refl {js : List Nat} {σ : L2.St} : OffOnly js σ σ := ⟨rfl, fun _ _ => rfl⟩
theorem OffOnly.trans {js : List Nat} {σ σ1 σ2 : L2.St} (h : OffOnly js σ σ1) (h' : OffOnly js σ1 σ2) : OffOnly js σ σ2 := ⟨h'.1.trans h.1, fun i hi => (h'.2 i hi).trans (h.2 i hi)⟩
theorem OffOnly.le {js ks : List Nat} {σ σ1 : L2.St} (h : OffOnly js σ σ1) (hk : ∀ j ∈ js, j ∈ ks) : OffOnly ks σ σ1 := ⟨h.1, fun i hi => h.2 i fun z => hi (hk i z)⟩
def GOk (K : Fr) (g : TG) (eff : Eff) (js : List Nat) : Prop := ∀ {px : Pin} q sl sl' σ F R H v (Q : L2.St → Hp → Prop), eff q sl = some sl' → Rp K F v q → SlR K px F R σ sl → Same F H → (∀ σ', SlR K px F R σ' sl' → OffOnly js σ σ' → Q σ' H) → g v σ H Q
def effN (j : Nat) : Eff := fun q sl => some (sl.set j (some (.p q)))
theorem go_name {j : Nat} : GOk K (gName j) (effN j) [j] := fun q sl sl' σ F R H v Q e hv hs s k => by
  cases e
  exact k _ (hs.set (show RelD K F R v (.p q) from hv)) ⟨List.length_set, fun i hi => List.getElem?_set_ne fun z => hi (by simp [z])⟩
abbrev Effs := List P → Slots → Option Slots
def effsN : Effs
  | [], sl => some sl
  | _, _ => none
def effsC (e1 : Eff) (e2 : Effs) : Effs
  | q :: qs, sl => match e1 q sl with
    | some sl1 => e2 qs sl1
    | none => none
  | [], _ => none
def effT (n : Nat) (es : Effs) : Eff := fun q sl => match q with
  | .tup ps => if ps.length = n then es ps sl else none
  | _ => none
def GsOk (K : Fr) (g : TGs) (eff : Effs) (js : List Nat) : Prop := ∀ {px : Pin} qs sl sl' σ F R H vs (Q : L2.St → Hp → Prop), eff qs sl = some sl' → RpAll K F vs qs → SlR K px F R σ sl → Same F H → (∀ σ', SlR K px F R σ' sl' → OffOnly js σ σ' → Q σ' H) → g vs σ H Q
theorem gso_nil : GsOk K gNil effsN [] := fun qs sl sl' σ F R H vs Q e hv hs s k => by
  cases qs with
  | nil => cases e; cases hv; exact ⟨rfl, k σ hs OffOnly.refl⟩
  | cons q qs => cases e
theorem gso_cons {g : TG} {gs : TGs} {e1 : Eff} {e2 : Effs} {js ks : List Nat} (h1 : GOk K g e1 js) (h2 : GsOk K gs e2 ks) : GsOk K (gCons g gs) (effsC e1 e2) (js ++ ks) := fun qs sl sl' σ F R H vs Q e hv hs s k => by
  cases hv with
  | nil => cases e
  | @cons v vs q qs hv1 hv2 =>
    cases h : e1 q sl with
    | none => simp only [effsC, h] at e; cases e
    | some sl1 =>
      simp only [effsC, h] at e
      exact ⟨v, vs, rfl, h1 q sl sl1 σ F R H v _ h hv1 hs s fun σ1 hs1 o1 => h2 qs sl1 sl' σ1 F R H vs Q e hv2 hs1 s fun σ2 hs2 o2 => k σ2 hs2 ((o1.le fun j hj => List.mem_append_left _ hj).trans (o2.le fun j hj => List.mem_append_right _ hj))⟩
theorem go_tup {gs : TGs} {es : Effs} {js : List Nat} {n : Nat} (h : GsOk K gs es js) : GOk K (gTup K.K n gs) (effT n es) js := fun q sl sl' σ F R H v Q e hv hs s k => by
  cases q with
  | tup ps =>
    have e : (if ps.length = n then es ps sl else none) = some sl' := e
    split at e
    · rename_i hn
      obtain ⟨a, vs, rfl, h1, h2⟩ := (Vw.p (H := H) hv).tupE
      exact ⟨a, vs, rfl, same_sqT s h1, by rw [h2.length]; exact hn, h ps sl sl' σ F R H vs Q e h2 hs s k⟩
    · cases e
  | _ => cases e
/-- a, b = e where e stands still -/
def sUnp (eff : Eff) (m : M) : MS := fun sl S => (m sl S).st sl fun d S1 => match d with
  | .p q => match eff q sl with
    | some sl' => .nx sl' S1
    | none => .no
  | .ref _ => .no
theorem sj_unp {g : TG} {eff : Eff} {js : List Nat} (hg : PG C.X tg g) (ho : GOk C.K g eff js) (h : Ej C m e) (hs' : swapsWithSole [tg] e pos.line C.X.env = pure false := by rfl) (hw : swappedStores [tg] e C.X.env = pure none := by rfl)
    (h1 : (assignEach [tg] C.X.env).map (·.2) = [assign tg C.X.env] := by rfl) : Sj1 C (sUnp eff m) (.Assign [tg] e pos) := .mk fun sl S σ F R H hs hr D post =>
  SD1.of (ps_asg pe_d hg hs' hw h1) (h sl S σ F R H hs hr _ (PostS.bind post hs fun d S1 v F1 R1 H1 _ rv rep1 s1 r1 hs1 post1 => by
    cases d with
    | ref n => exact post1.elim
    | p q =>
      cases he : eff q sl with
      | none => simp only [he] at post1; exact post1.elim
      | some sl' =>
        simp only [he] at post1
        exact ho q sl sl' σ F1 R1 H1 v _ he rv hs1 rep1.sub fun σ' hs' _ => post1 σ' F1 R1 H1 hs' rep1 (Same.refl _) pre_refl))

/-! ### what is walked -/
structure ItOk (K : Fr) (J : It) (F : Hp) (its : List P) : Prop where
  go : ∀ (i : Nat) d F2 H2, its[i]? = some d → Same F F2 → Same F2 H2 → J.go i H2 ∧ ∀ v H', J.yld i H2 v H' → ∃ F', Grow F2 H2 F' H' ∧ Rp K F' v d
  stop : ∀ F2 H2, Same F F2 → Same F2 H2 → J.stop its.length H2
abbrev MI := Slots → Store → Rs (List P)
abbrev rI (K : Fr) : Hp → List Addr → It → List P → Prop := fun F' _ J its => ItOk K J F' its
def SrcOk (C : Kx) (wi : TI) (ms : MI) : Prop := ∀ sl S σ F R H, SlR C.K C.px F R σ sl → Rep C.K C.G F R S H → ∀ Q : It → Hp → Prop, Post C σ F R (rI C.K) Q (ms sl S) → wi σ H Q
theorem it_list {F : Hp} {a : Addr} {xs : List V} {ds : List P} (h1 : F a = some (.lst xs)) (h2 : RpAll K F xs ds) : ItOk K (Itl K.K a) F ds := by
  refine ⟨fun i d F2 H2 e s s2 => ?_, fun F2 H2 s s2 => ?_⟩
  · obtain ⟨v, ev, rv⟩ := h2.get' e
    have q : SqL K.K H2 a xs := .inl (.inl (s2 _ _ (s _ _ h1)))
    refine ⟨⟨xs, v, q, ev⟩, fun x H' y => ?_⟩
    obtain ⟨rfl, y⟩ := y
    have e1 := y xs q
    rw [ev] at e1
    cases e1
    exact ⟨F2, Grow.refl s2, Rp.mono s _ _ rv⟩
  · exact ⟨xs, .inl (.inl (s2 _ _ (s _ _ h1))), by rw [h2.length]; exact Nat.le_refl _⟩
theorem it_listW {F : Hp} {a : Addr} {xs : List V} {ds : List P} (h1 : SqL K.K F a xs) (h2 : RpAll K F xs ds) : ItOk K (Itl K.K a) F ds := by
  refine ⟨fun i d F2 H2 e s s2 => ?_, fun F2 H2 s s2 => ?_⟩
  · obtain ⟨v, ev, rv⟩ := h2.get' e
    have q : SqL K.K H2 a xs := same_sqL s2 (same_sqL s h1)
    refine ⟨⟨xs, v, q, ev⟩, fun x H' y => ?_⟩
    obtain ⟨rfl, y⟩ := y
    have e1 := y xs q
    rw [ev] at e1
    cases e1
    exact ⟨F2, Grow.refl s2, Rp.mono s _ _ rv⟩
  · exact ⟨xs, same_sqL s2 (same_sqL s h1), by rw [h2.length]; exact Nat.le_refl _⟩
theorem it_tup {F : Hp} {a : Addr} {xs : List V} {ds : List P} (h1 : SqT K.K F a xs) (h2 : RpAll K F xs ds) : ItOk K (Itt K.K a) F ds := by
  refine ⟨fun i d F2 H2 e s s2 => ?_, fun F2 H2 s s2 => ?_⟩
  · obtain ⟨v, ev, rv⟩ := h2.get' e
    have q : SqT K.K H2 a xs := same_sqT s2 (same_sqT s h1)
    refine ⟨⟨xs, v, q, ev⟩, fun x H' y => ?_⟩
    obtain ⟨rfl, y⟩ := y
    have e1 := y xs q
    rw [ev] at e1
    cases e1
    exact ⟨F2, Grow.refl s2, Rp.mono s _ _ rv⟩
  · exact ⟨xs, same_sqT s2 (same_sqT s h1), by rw [h2.length]; exact Nat.le_refl _⟩
abbrev chars (z : Str) : List P := z.cps.toList.map fun c => .str ⟨#[c]⟩
theorem it_str {F : Hp} {z : Str} : ItOk K (Its z) F (chars z) := by
  refine ⟨fun i d F2 H2 e s s2 => ?_, fun F2 H2 s s2 => ?_⟩
  · rw [List.getElem?_map] at e
    cases hc : z.cps.toList[i]? with
    | none => rw [hc] at e; cases e
    | some c =>
      rw [hc] at e
      cases e
      have hlt := (List.getElem?_eq_some_iff.mp hc).1
      rw [Array.length_toList] at hlt
      refine ⟨hlt, fun x H' y => ?_⟩
      obtain ⟨rfl, c', e1, rfl⟩ := y
      rw [← Array.getElem?_toList, hc] at e1
      cases e1
      exact ⟨F2, Grow.refl s2, .str _⟩
  · show z.cps.size ≤ _
    rw [List.length_map, Array.length_toList]
    exact Nat.le_refl _
abbrev rng (lo : Int) (n : Nat) : List P := (List.range n).map fun j : Nat => .int (lo + (j : Int))
theorem it_range {F : Hp} {lo : Int} {n : Nat} : ItOk K (Itr lo n) F (rng lo n) := by
  refine ⟨fun i d F2 H2 e s s2 => ?_, fun F2 H2 s s2 => ?_⟩
  · rw [List.getElem?_map] at e
    by_cases hi : i < n
    · rw [List.getElem?_range hi] at e
      cases e
      refine ⟨hi, fun x H' y => ?_⟩
      obtain ⟨rfl, rfl⟩ := y
      exact ⟨F2, Grow.refl s2, .int _⟩
    · rw [List.getElem?_eq_none (by rw [List.length_range]; omega)] at e
      cases e
  · show n ≤ _
    rw [List.length_map, List.length_range]
    exact Nat.le_refl _
def iSeqT (K : PySem.W.Frag) (tl : TE) : TI := fun σ H R => tl σ H fun x H1 => (∃ a, x = .ref a ∧ (∃ xs, SqL K H1 a xs) ∧ R (Itl K a) H1) ∨ (∃ a, x = .ref a ∧ (∃ xs, SqT K H1 a xs) ∧ R (Itt K a) H1) ∨ ∃ z, x = .str z ∧ R (Its z) H1
theorem pi_seq {X : Cx} {l : Expr} {tl : TE} (hl : PE X l tl) : PI X tg l (iSeqT X.K tl) := by
  refine ⟨fun pins s σ H R I h => ?_⟩
  refine thn (hl.run pins s σ H _ I h) fun v s1 ⟨x, H1, I1, r1, q1⟩ => ?_
  rcases q1 with ⟨a, e, ⟨xs, hq⟩, q⟩ | ⟨a, e, ⟨xs, hq⟩, q⟩ | ⟨x, ex, q⟩
  · subst e
    cases r1
    obtain ⟨its, rv, p, hz⟩ := I1.list hq
    refine wpAny_pyIter_list p.isList ?_
    refine ⟨s1.heap.objs.size, [s1.heap.objs.size], _, _, H1, rfl, I1.kept (t' := s1.toks) fun b o e => Heap.get?_push_of_some _ e, turn_list a _, ⟨_, Heap.get?_push_size _ rfl, rfl, rfl⟩, fun b hb => ?_, q⟩
    have e : b = s1.heap.objs.size := by simpa using hb
    subst e
    exact I1.fpOk (Nat.le_refl _) (I1.hok.fresh (Nat.le_refl _))
  · subst e
    cases r1
    obtain ⟨its, rv, p, hz⟩ := I1.tuple hq
    refine wpAny_pyIter_tuple (show s1.heap.IsTuple a its.toArray from p) ?_
    refine ⟨s1.heap.objs.size, [s1.heap.objs.size], _, _, H1, rfl, I1.kept (t' := s1.toks) fun b o e => Heap.get?_push_of_some _ e, turn_tuple a _, ⟨_, Heap.get?_push_size _ rfl, rfl, rfl⟩, fun b hb => ?_, q⟩
    have e : b = s1.heap.objs.size := by simpa using hb
    subst e
    exact I1.fpOk (Nat.le_refl _) (I1.hok.fresh (Nat.le_refl _))
  · subst ex
    obtain ⟨t, rfl⟩ := r1
    cases ha : x.cps.all (· < 128)
    · exact wpAny_pyIter_wide ha (pi_one (tk := s1.toks) I1 _ (turn_str _ x t "str_iterator" (.inr rfl)) ⟨_, Heap.get?_push_size _ rfl, rfl, rfl⟩ q)
    · exact wpAny_pyIter_ascii ha (pi_one (tk := s1.toks) I1 _ (turn_str _ x t "str_ascii_iterator" (.inl rfl)) ⟨_, Heap.get?_push_size _ rfl, rfl, rfl⟩ q)
def seqOf : P → Option (List P)
  | .lst ps => some ps
  | .tup ps => some ps
  | .str z => some (chars z)
  | .scr ns => some (ns.map .int)
  | _ => none
def iSeq (m : M) : MI := fun sl S => (m sl S).bind fun d S1 => match d with
  | .p q => match seqOf q with
    | some its => .ok its S1
    | none => .no
  | .ref _ => .no
theorem src_seq (h : Ej C m a) : SrcOk C (iSeqT C.X.K (ED C.X a)) (iSeq m) := fun sl S σ F R H hs hr Q post =>
  h sl S σ F R H hs hr _ (Post.bind post fun d S1 v F1 R1 H1 _ rv rep1 s1 r1 post1 => by
    cases d with
    | ref n => exact post1.elim
    | p q =>
      cases hv : rv with
      | lst h1 h2 => exact .inl ⟨_, rfl, ⟨_, .inl (.inl (rep1.sub _ _ h1))⟩, post1.okv (it_list h1 h2) rep1⟩
      | tup h1 h2 => exact .inr (.inl ⟨_, rfl, ⟨_, .inl (.inl (rep1.sub _ _ h1))⟩, post1.okv (it_tup (.inl (.inl h1)) h2) rep1⟩)
      | tupW h1 h2 _ => exact .inr (.inl ⟨_, rfl, ⟨_, same_sqT rep1.sub h1⟩, post1.okv (it_tup h1 h2) rep1⟩)
      | str z => exact .inr (.inr ⟨z, rfl, post1.okv it_str rep1⟩)
      | scr h1 => exact .inl ⟨_, rfl, ⟨_, same_sqL rep1.sub h1⟩, post1.okv (it_listW h1 (rp_ints _)) rep1⟩
      | _ => exact post1.elim)
def iR1 (m : M) : MI := fun sl S => (m sl S).bind fun d S1 => (asI S1 d).bind fun n S1 => if -(2 ^ 62) ≤ n ∧ n < 2 ^ 62 then .ok (rng 0 n.toNat) S1 else .no
def iR2 (m1 m2 : M) : MI := fun sl S => (m1 sl S).bind fun d S1 => (m2 sl S1).bind fun e S2 => (asI S2 d).bind fun i S2 => (asI S2 e).bind fun j S2 => if (-(2 ^ 62) ≤ i ∧ i < 2 ^ 62) ∧ (-(2 ^ 62) ≤ j ∧ j < 2 ^ 62) then .ok (rng i (j - i).toNat) S2 else .no
theorem asI_postG {α β : Type} {σ : L2.St} {F H : Hp} {R : List Addr} {S : Store} {d : D} {v : V} {rel : Hp → List Addr → β → α → Prop} {Q : β → Hp → Prop} {f : Int → Store → Rs α} (rv : RelD C.K F R v d) (rep : Rep C.K C.G F R S H) (post : Post C σ F R rel Q ((asI S d).bind f)) : ∃ i, v = .int i ∧ Post C σ F R rel Q (f i S) := by
  unfold asI at post
  cases hv : view S d with
  | none => rw [hv] at post; exact post.elim
  | some q =>
    rw [hv] at post
    cases q with
    | int n => exact ⟨n, (view_vw rv rep hv).int, post⟩
    | _ => exact post.elim
theorem src_r1 (h : Ej C m a) (he : starEach [a] C.X.env = (false, eval a C.X.env) :: starEach [] C.X.env := by exact se_of rfl) : SrcOk C (iRng1 (AD C.X [a])) (iR1 m) := fun sl S σ F R H hs hr Q post =>
  AD.of (pa_cons pe_d pa_nil he) (h sl S σ F R H hs hr _ (Post.bind post fun d S1 v F1 R1 H1 _ rv rep1 s1 r1 post1 => by
    obtain ⟨n, rfl, post1⟩ := asI_postG rv rep1 post1
    by_cases hn : -(2 ^ 62) ≤ n ∧ n < 2 ^ 62
    · rw [if_pos hn] at post1
      exact ⟨n, rfl, hn.1, hn.2, post1.okv it_range rep1⟩
    · rw [if_neg hn] at post1; exact post1.elim))
theorem src_r2 (h : Ej C m1 a) (h2 : Ej C m2 b) (he : starEach [a, b] C.X.env = (false, eval a C.X.env) :: starEach [b] C.X.env := by exact se_of rfl) (he2 : starEach [b] C.X.env = (false, eval b C.X.env) :: starEach [] C.X.env := by exact se_of rfl) : SrcOk C (iRng2 (AD C.X [a, b])) (iR2 m1 m2) := fun sl S σ F R H hs hr Q post =>
  AD.of (pa_cons pe_d (pa_cons pe_d pa_nil he2) he) (h sl S σ F R H hs hr _ (Post.bind post fun d S1 v F1 R1 H1 _ rv rep1 s1 r1 post1 => h2 sl S1 σ F1 R1 H1 (hs.mono s1 r1) rep1 _ (Post.bind post1 fun d2 S2 v2 F2 R2 H2 _ rv2 rep2 s2 r2 post2 => by
    obtain ⟨i, rfl, post2⟩ := asI_postG (rv.mono s2 r2) rep2 post2
    obtain ⟨j, rfl, post2⟩ := asI_postG rv2 rep2 post2
    by_cases hn : (-(2 ^ 62) ≤ i ∧ i < 2 ^ 62) ∧ (-(2 ^ 62) ≤ j ∧ j < 2 ^ 62)
    · rw [if_pos hn] at post2
      exact ⟨i, j, rfl, ⟨hn.1.1, hn.1.2, hn.2.1, hn.2.2⟩, post2.okv it_range rep2⟩
    · rw [if_neg hn] at post2; exact post2.elim)))

/-! ### for, while -/
def loop (eff : Eff) (mb : MS) : List P → MS
  | [], sl, S => .nx sl S
  | q :: qs, sl, S => match eff q sl with
    | none => .no
    | some sl1 => match mb sl1 S with
      | .nx sl2 S2 => loop eff mb qs sl2 S2
      | .ct sl2 S2 => loop eff mb qs sl2 S2
      | .bk sl2 S2 => .nx sl2 S2
      | .rt d S2 => .rt d S2
      | .exc x sl2 S2 => .exc x sl2 S2
      | .no => .no
def sFor (ms : MI) (eff : Eff) (mb : MS) : MS := fun sl S => (ms sl S).st sl fun its S1 => loop eff mb its sl S1
theorem sj_for {body : List Stmt} {wi : TI} {ms : MI} {g : TG} {eff : Eff} {js : List Nat} {mb : MS} (hp : PassesOwn (model C.X.prog C.X.w) C.X.A C.X.env C.X.xe) (hc : C.X.calm = true) (hi : PI C.X tg iter wi) (hsrc : SrcOk C wi ms) (hg : PG C.X tg g) (ho : GOk C.K g eff js) (hb : Sj C mb body)
    (hf : ∀ x, foldedSetIterable iter C.X.env x = pure x := by intro _; rfl) : Sj1 C (sFor ms eff mb) (.For tg iter body [] pos) := .mk fun sl S σ F R H hs hr D post => by
  refine SD1.of (ps_for hp hc hi hg pss_d hf) (hsrc sl S σ F R H hs hr _ (PostS.bind post hs fun its S1 J F1 R1 H1 _ ok rep1 s1 r1 hs1 post1 => ?_))
  refine ⟨fun i k σ H => k = its.length - i ∧ i ≤ its.length ∧ ∃ F2 R2 sl2 S2, Same F1 F2 ∧ R1 <+: R2 ∧ SlR C.K C.px F2 R2 σ sl2 ∧ Rep C.K C.G F2 R2 S2 H ∧ PostS C F2 R2 D (loop eff mb (its.drop i) sl2 S2), ⟨its.length, rfl, Nat.zero_le _, F1, R1, sl, S1, Same.refl _, pre_refl, hs1, rep1, post1⟩, ?_⟩
  rintro i k σ2 H2 ⟨rfl, hle, F2, R2, sl2, S2, s2, r2, hs2, rep2, post2⟩
  by_cases hlt : i < its.length
  · have hit : its[i]? = some its[i] := List.getElem?_eq_getElem hlt
    have hd : its.drop i = its[i] :: its.drop (i + 1) := List.drop_eq_getElem_cons hlt
    rw [hd] at post2
    obtain ⟨g1, g2⟩ := ok.go i _ F2 H2 hit s2 rep2.sub
    refine .inr ⟨g1, fun σ' H' => ∃ F3 R3 sl3 S3, Same F1 F3 ∧ R1 <+: R3 ∧ SlR C.K C.px F3 R3 σ' sl3 ∧ Rep C.K C.G F3 R3 S3 H' ∧ PostS C F3 R3 D (loop eff mb (its.drop (i + 1)) sl3 S3), fun σ' H' ⟨F3, R3, sl3, S3, s3, r3, hs3, rep3, post3⟩ => ⟨its.length - (i + 1), by omega, rfl, hlt, F3, R3, sl3, S3, s3, r3, hs3, rep3, post3⟩, fun v H' hy => ?_⟩
    obtain ⟨F3, gr3, rv⟩ := g2 v H' hy
    simp only [loop] at post2
    cases he : eff its[i] sl2 with
    | none => simp only [he] at post2; exact post2.elim
    | some sl3 =>
      simp only [he] at post2
      refine ho _ sl2 sl3 σ2 F3 R2 H' v _ he rv (hs2.mono gr3.sF pre_refl) gr3.sub fun σ3 hs3 _ => ?_
      refine hb sl3 S2 σ3 F3 R2 H' hs3 (rep2.grow gr3) _ ?_
      have e1 : Same F1 F3 := s2.trans gr3.sF
      cases hm : mb sl3 S2 with
      | nx sl4 S4 =>
        simp only [hm] at post2
        exact fun σ' F' R' H'' h1 h2 h3 h4 => ⟨F', R', sl4, S4, e1.trans h3, pre_trans r2 h4, h1, h2, PostS.mono post2 (gr3.sF.trans h3) h4⟩
      | ct sl4 S4 =>
        simp only [hm] at post2
        exact fun σ' F' R' H'' h1 h2 h3 h4 => ⟨F', R', sl4, S4, e1.trans h3, pre_trans r2 h4, h1, h2, PostS.mono post2 (gr3.sF.trans h3) h4⟩
      | bk sl4 S4 =>
        simp only [hm] at post2
        exact PostS.mono post2 gr3.sF pre_refl
      | rt d S4 => simp only [hm] at post2; exact PostS.mono post2 gr3.sF pre_refl
      | exc x sl4 S4 => simp only [hm] at post2; exact PostS.mono post2 gr3.sF pre_refl
      | no => simp only [hm] at post2; exact post2.elim
  · have e : i = its.length := by omega
    subst e
    rw [List.drop_length] at post2
    exact .inl ⟨ok.stop F2 H2 s2 rep2.sub, post2 σ2 F2 R2 H2 hs2 rep2 (Same.refl _) pre_refl⟩
def wloop (t : MT) (mb : MS) : Nat → MS
  | 0, _, _ => .no
  | n + 1, sl, S => (t sl S).st sl fun b S1 => if b = true then match mb sl S1 with
      | .nx sl2 S2 => wloop t mb n sl2 S2
      | .ct sl2 S2 => wloop t mb n sl2 S2
      | .bk sl2 S2 => .nx sl2 S2
      | .rt d S2 => .rt d S2
      | .exc x sl2 S2 => .exc x sl2 S2
      | .no => .no
    else .nx sl S1
theorem sj_while {body : List Stmt} {mb : MS} (n : Nat) (hp : PassesOwn (model C.X.prog C.X.w) C.X.A C.X.env C.X.xe) (ht : Tj C t c) (hb : Sj C mb body) : Sj1 C (wloop t mb n) (.While c body [] pos) := .mk fun sl S σ F R H hs hr D post => by
  refine SD1.of (ps_while hp pt_d pss_d) ?_
  refine ⟨fun k σ H => ∃ F2 R2 sl2 S2, Same F F2 ∧ R <+: R2 ∧ SlR C.K C.px F2 R2 σ sl2 ∧ Rep C.K C.G F2 R2 S2 H ∧ PostS C F2 R2 D (wloop t mb k sl2 S2), ⟨n, F, R, sl, S, Same.refl _, pre_refl, hs, hr, post⟩, ?_⟩
  rintro k σ2 H2 ⟨F2, R2, sl2, S2, s2, r2, hs2, rep2, post2⟩
  cases k with
  | zero => exact post2.elim
  | succ k =>
    refine ht sl2 S2 σ2 F2 R2 H2 hs2 rep2 _ (PostS.bind post2 hs2 fun b S3 b' F3 R3 H3 _ rb rep3 s3 r3 hs3 post3 => ?_)
    cases (show b' = b from rb)
    cases b with
    | false =>
      show D.nx σ2 H3
      exact (show PostS C F3 R3 D (.nx sl2 S3) from post3) σ2 F3 R3 H3 hs3 rep3 (Same.refl _) pre_refl
    | true =>
      show ∃ N, _
      refine ⟨fun σ' H' => ∃ F4 R4 sl4 S4, Same F F4 ∧ R <+: R4 ∧ SlR C.K C.px F4 R4 σ' sl4 ∧ Rep C.K C.G F4 R4 S4 H' ∧ PostS C F4 R4 D (wloop t mb k sl4 S4), fun σ' H' h => ⟨k, Nat.lt_succ_self _, h⟩, ?_⟩
      refine hb sl2 S3 σ2 F3 R3 H3 hs3 rep3 _ ?_
      have post3 : PostS C F3 R3 D (match mb sl2 S3 with
        | .nx sl2 S2 => wloop t mb k sl2 S2
        | .ct sl2 S2 => wloop t mb k sl2 S2
        | .bk sl2 S2 => .nx sl2 S2
        | .rt d S2 => .rt d S2
        | .exc x sl2 S2 => .exc x sl2 S2
        | .no => .no) := post3
      have e1 : Same F F3 := s2.trans s3
      have e2 : R <+: R3 := pre_trans r2 r3
      cases hm : mb sl2 S3 with
      | nx sl4 S4 =>
        simp only [hm] at post3
        exact fun σ' F' R' H'' h1 h2 h3 h4 => ⟨F', R', sl4, S4, e1.trans h3, pre_trans e2 h4, h1, h2, PostS.mono post3 h3 h4⟩
      | ct sl4 S4 =>
        simp only [hm] at post3
        exact fun σ' F' R' H'' h1 h2 h3 h4 => ⟨F', R', sl4, S4, e1.trans h3, pre_trans e2 h4, h1, h2, PostS.mono post3 h3 h4⟩
      | bk sl4 S4 => simp only [hm] at post3; exact post3
      | rt d S4 => simp only [hm] at post3; exact post3
      | exc x sl4 S4 => simp only [hm] at post3; exact post3
      | no => simp only [hm] at post3; exact post3.elim
end
end Z

namespace Z
open PySem PySem.Spec PyProof.Rows L2
/-! ### comprehensions -/
theorem wipe_get {σ : L2.St} {i : Nat} : ∀ {vs : List Nat}, (wipe σ vs)[i]? = if i ∈ vs then σ[i]?.map fun _ => none else σ[i]?
  | [] => by simp [wipe]
  | v :: vs => by
    have ih := wipe_get (σ := σ) (i := i) (vs := vs)
    show ((wipe σ vs).set v none)[i]? = _
    by_cases h : i = v
    · subst h
      rw [if_pos (by simp)]
      by_cases hl : i < σ.length
      · rw [List.getElem?_set_self (by rw [wipe_length]; exact hl), List.getElem?_eq_getElem hl]; rfl
      · rw [List.getElem?_eq_none (by rw [List.length_set, wipe_length]; omega), List.getElem?_eq_none (by omega)]; rfl
    · rw [List.getElem?_set_ne (Ne.symm h), ih]
      simp [h]
theorem map_none_eq {α β : Type} {l l' : List α} (h : l'.length = l.length) (i : Nat) : (l'[i]?.map fun _ => (none : Option β)) = l[i]?.map fun _ => none := by
  by_cases hl : i < l.length
  · rw [List.getElem?_eq_getElem hl, List.getElem?_eq_getElem (show i < l'.length by omega)]; rfl
  · rw [List.getElem?_eq_none (show l.length ≤ i by omega), List.getElem?_eq_none (show l'.length ≤ i by omega)]
theorem OffOnly.wipe {js vs : List Nat} {σ σ' : L2.St} (h : OffOnly js σ σ') (hj : ∀ j ∈ js, j ∈ vs) : L2.wipe σ' vs = L2.wipe σ vs := by
  refine List.ext_getElem? fun i => ?_
  rw [wipe_get, wipe_get]
  by_cases hi : i ∈ vs
  · rw [if_pos hi, if_pos hi]
    exact map_none_eq h.1 i
  · rw [if_neg hi, if_neg hi, h.2 i fun z => hi (hj i z)]
theorem wipe_wipe {vs : List Nat} {σ : L2.St} : L2.wipe (L2.wipe σ vs) vs = L2.wipe σ vs := by
  refine List.ext_getElem? fun i => ?_
  rw [wipe_get]
  by_cases hi : i ∈ vs
  · rw [if_pos hi, wipe_get, if_pos hi]
    cases σ[i]? <;> rfl
  · rw [if_neg hi, wipe_get, if_neg hi]
def wipeS (sl : Slots) : List Nat → Slots
  | [] => sl
  | v :: vs => (wipeS sl vs).set v none
theorem SlR.wipe {K : Fr} {px : Pin} {F : Hp} {R : List Addr} {σ : L2.St} {sl : Slots} (h : SlR K px F R σ sl) : ∀ vs : List Nat, SlR K px F R (L2.wipe σ vs) (wipeS sl vs)
  | [] => h
  | v :: vs => (h.wipe vs).setN
abbrev BlkX (X : Cx) (scope : Scope) : Cx → Prop := fun B => ∃ (s : Shared) (H : Hp) (Cc : Addr) (cl : List (Str × Addr)) (fp : List Addr), B = X.blk s H scope (compEnvC scope cl Cc X.env) fp
def EB (X : Cx) (scope : Scope) (e : Expr) : TE := fun σ H Q => ∀ B, BlkX X scope B → ED B e σ H Q
def TB (X : Cx) (scope : Scope) (e : Expr) : TT := fun σ H Q => ∀ B, BlkX X scope B → TD B e σ H Q
theorem blkX_mk {X : Cx} {scope : Scope} (s : Shared) (H : Hp) (Cc : Addr) (cl : List (Str × Addr)) (fp : List Addr) : BlkX X scope (X.blk s H scope (compEnvC scope cl Cc X.env) fp) := ⟨s, H, Cc, cl, fp, rfl⟩
theorem pe_b {X : Cx} {scope : Scope} {e : Expr} (s : Shared) (H : Hp) (Cc : Addr) (cl : List (Str × Addr)) (fp : List Addr) : PE (X.blk s H scope (compEnvC scope cl Cc X.env) fp) e (EB X scope e) := ⟨fun pins s' σ H' Q I h => h _ (blkX_mk s H Cc cl fp) pins s' I⟩
theorem pt_b {X : Cx} {scope : Scope} {e : Expr} (s : Shared) (H : Hp) (Cc : Addr) (cl : List (Str × Addr)) (fp : List Addr) : PT (X.blk s H scope (compEnvC scope cl Cc X.env) fp) e (TB X scope e) := ⟨fun pins s' σ H' Q I h => h _ (blkX_mk s H Cc cl fp) pins s' I⟩
abbrev frX (X : Cx) : Fr := ⟨X.K, X.prog, X.w⟩
theorem blk_K {X B : Cx} {scope : Scope} (h : BlkX X scope B) : frX B = frX X := by obtain ⟨_, _, _, _, _, rfl⟩ := h; rfl
def lcL (eff : Eff) (t : MT) (elt : M) (own : List Nat) (sl : Slots) : List P → List P → Store → Rs (List P)
  | [], acc, S => .ok acc S
  | q :: qs, acc, S => match eff q (wipeS sl own) with
    | none => .no
    | some sl1 => match t sl1 S with
      | .ok true S1 => match elt sl1 S1 with
        | .ok (.p z) S2 => if acc.length < sizeLine then lcL eff t elt own sl qs (acc ++ [z]) S2 else .no
        | _ => .no
      | .ok false S1 => lcL eff t elt own sl qs acc S1
      | _ => .no
def tYes : MT := fun _ S => .ok true S
section
variable {C : Kx} {a b c e tg iter elt : Expr} {es rest : List Expr} {pos pos' p : Pos} {x : Str} {m me : M} {t : MT} {ms : MI} {K : Fr} {g : TG} {eff : Eff} {js vs : List Nat} {wi : TI} {scope : Scope} {own : List (Str × Nat)}
/-- a list that is being made is guarded meanwhile -/
theorem Rep.guard {G F H : Hp} {R : List Addr} {S : Store} {l : Addr} {o : HO} (h : Rep K G F R S H) (n : H l = none) : Rep K (upd G l o) F R S (upd H l o) := by
  have g := h.grow (Grow.own (o := o) h.sub n)
  obtain ⟨pc0, h0⟩ := h
  obtain ⟨pc, h⟩ := g
  have hp : ∀ m, pc0 m l = none := fun m => h0.free n m
  have h1 := (Grow.own (o := o) h0.sub n)
  refine ⟨pc0, h1.sub, h0.len, h0.ok, fun m a u e => ?_, h0.sep, h0.emp, fun a u e => ?_⟩
  · obtain ⟨q1, q2⟩ := h0.out m a u e
    exact ⟨q1, h1.sH _ _ q2⟩
  · by_cases ha : a = l
    · subst ha
      rw [upd_same] at e
      exact ⟨by rw [upd_same]; exact e, h0.sub.free n, hp⟩
    · rw [upd_ne ha] at e
      obtain ⟨q1, q2, q3⟩ := h0.grd a u e
      exact ⟨h1.sH _ _ q1, q2, q3⟩
/-- .. grows -/
theorem Rep.regrow {G F H : Hp} {R : List Addr} {S : Store} {l : Addr} {o o' : HO} (h : Rep K (upd G l o) F R S H) : Rep K (upd G l o') F R S (upd H l o') := by
  obtain ⟨pc, h⟩ := h
  obtain ⟨q1, q2, q3⟩ := h.grd l o upd_same
  refine ⟨pc, fun a u e => ?_, h.len, h.ok, fun m a u e => ?_, h.sep, h.emp, fun a u e => ?_⟩
  · rw [upd_ne (ne_of_none e q2)]; exact h.sub _ _ e
  · obtain ⟨z1, z2⟩ := h.out m a u e
    have ha : a ≠ l := fun z => by subst z; rw [q3 m] at e; cases e
    exact ⟨z1, by rw [upd_ne ha]; exact z2⟩
  · by_cases ha : a = l
    · subst ha
      rw [upd_same] at e
      exact ⟨by rw [upd_same]; exact e, q2, q3⟩
    · rw [upd_ne ha] at e
      obtain ⟨z1, z2, z3⟩ := h.grd a u (by rw [upd_ne ha]; exact e)
      exact ⟨by rw [upd_ne ha]; exact z1, z2, z3⟩
/-- .. is known when it is made -/
theorem Rep.known {G F H : Hp} {R : List Addr} {S : Store} {l : Addr} {o : HO} (h : Rep K (upd G l o) F R S H) (n : G l = none) : Same F (upd F l o) ∧ Rep K G (upd F l o) R S H := by
  obtain ⟨pc, h⟩ := h
  obtain ⟨q1, q2, q3⟩ := h.grd l o upd_same
  have s : Same F (upd F l o) := Same.upd_new q2
  refine ⟨s, pc, fun a u e => ?_, h.len, fun m c e => ?_, fun m a u e => ?_, h.sep, h.emp, fun a u e => ?_⟩
  · by_cases ha : a = l
    · subst ha; rw [upd_same] at e; cases e; exact q1
    · rw [upd_ne ha] at e; exact h.sub _ _ e
  · obtain ⟨a, z1, z2⟩ := h.ok m c e
    exact ⟨a, z1, z2.mono s pre_refl⟩
  · obtain ⟨z1, z2⟩ := h.out m a u e
    have ha : a ≠ l := fun z => by subst z; rw [q3 m] at e; cases e
    exact ⟨by rw [upd_ne ha]; exact z1, z2⟩
  · have ha : a ≠ l := fun z => by subst z; rw [n] at e; cases e
    obtain ⟨z1, z2, z3⟩ := h.grd a u (by rw [upd_ne ha]; exact e)
    exact ⟨z1, by rw [upd_ne ha]; exact z2, z3⟩
theorem Rep.gnone {G F H : Hp} {R : List Addr} {S : Store} {l : Addr} (h : Rep K G F R S H) (n : H l = none) : G l = none := by
  obtain ⟨pc, h⟩ := h
  cases q : G l with
  | none => rfl
  | some o => rw [(h.grd l o q).1] at n; cases n
def EjB (C : Kx) (scope : Scope) (m : M) (e : Expr) : Prop := ∀ B : Kx, BlkX C.X scope B.X → Ej B m e
def TjB (C : Kx) (scope : Scope) (t : MT) (e : Expr) : Prop := ∀ B : Kx, BlkX C.X scope B.X → Tj B t e
/-- how the parts of a turn are read -/
structure TurnOk (C : Kx) (tt : TT) (te : TE) (t : MT) (me : M) : Prop where
  t : ∀ (G : Hp) sl S σ F R H, SlR C.K C.px F R σ sl → Rep C.K G F R S H → ∀ (b : Bool) S1, t sl S = .ok b S1 → ∀ Q : Bool → Hp → Prop, (∀ F' R' H', Rep C.K G F' R' S1 H' → Same F F' → R <+: R' → Q b H') → tt σ H Q
  e : ∀ (G : Hp) sl S σ F R H, SlR C.K C.px F R σ sl → Rep C.K G F R S H → ∀ d S1, me sl S = .ok d S1 → ∀ Q : VK, (∀ v F' R' H', RelD C.K F' R' v d → Rep C.K G F' R' S1 H' → Same F F' → R <+: R' → Q v H') → te σ H Q
theorem turn_e {m : M} (h : EjB C scope m elt) : ∀ (G : Hp) sl S σ F R H, SlR C.K C.px F R σ sl → Rep C.K G F R S H → ∀ d S1, m sl S = .ok d S1 → ∀ Q : VK, (∀ v F' R' H', RelD C.K F' R' v d → Rep C.K G F' R' S1 H' → Same F F' → R <+: R' → Q v H') → EB C.X scope elt σ H Q := by
  intro G sl S σ F R H hs hr d S1 em Q k BX hB
  have hK := blk_K hB
  refine h ⟨BX, fun _ _ _ _ => False, takes0, G, C.px⟩ hB sl S σ F R H (by show SlR (frX BX) C.px F R σ sl; rw [hK]; exact hs) (by show Rep (frX BX) G F R S H; rw [hK]; exact hr) Q ?_
  rw [em]
  intro v F' R' H' h1 h2 h3 h4
  exact k v F' R' H' (by have z : RelD (frX BX) F' R' v d := h1; rw [hK] at z; exact z) (by have z : Rep (frX BX) G F' R' S1 H' := h2; rw [hK] at z; exact z) h3 h4
theorem turn_t {t : MT} (h : TjB C scope t c) : ∀ (G : Hp) sl S σ F R H, SlR C.K C.px F R σ sl → Rep C.K G F R S H → ∀ (b : Bool) S1, t sl S = .ok b S1 → ∀ Q : Bool → Hp → Prop, (∀ F' R' H', Rep C.K G F' R' S1 H' → Same F F' → R <+: R' → Q b H') → TB C.X scope c σ H Q := by
  intro G sl S σ F R H hs hr b S1 em Q k BX hB
  have hK := blk_K hB
  refine h ⟨BX, fun _ _ _ _ => False, takes0, G, C.px⟩ hB sl S σ F R H (by show SlR (frX BX) C.px F R σ sl; rw [hK]; exact hs) (by show Rep (frX BX) G F R S H; rw [hK]; exact hr) Q ?_
  rw [em]
  intro b' F' R' H' h1 h2 h3 h4
  cases (show b' = b from h1)
  exact k F' R' H' (by have z : Rep (frX BX) G F' R' S1 H' := h2; rw [hK] at z; exact z) h3 h4
def eLc (ms : MI) (eff : Eff) (t : MT) (me : M) (own : List Nat) : M := fun sl S => (ms sl S).bind fun its S1 => (lcL eff t me own sl its [] S1).bind fun ps S2 => .ok (.p (.lst ps)) S2
theorem lc_read {tt : TT} {te : TE} {σ : L2.St} {F H : Hp} {R : List Addr} {sl : Slots} {S : Store} {Q : VK} (hs : SlR C.K C.px F R σ sl) (hr : Rep C.K C.G F R S H) (hsrc : SrcOk C wi ms) (ho : GOk C.K g eff js) (hj : ∀ j ∈ js, j ∈ vs) (ht : TurnOk C tt te t me)
    (post : Post C σ F R (RelD C.K) Q (eLc ms eff t me vs sl S)) : tLc wi g tt te vs σ H Q := by
  refine hsrc sl S σ F R H hs hr _ (Post.bind post fun its S1 J F1 R1 H1 _ ok rep1 s1 r1 post1 => ?_)
  intro D hD
  have hs1 := hs.mono s1 r1
  have nG := rep1.gnone hD
  let Pv : Nat → Hp → Prop := fun i H => ∃ (F2 : Hp) (R2 : List Addr) (S2 : Store) (acc : List P) (ws : List V), Same F1 F2 ∧ R1 <+: R2 ∧ Rep C.K (upd C.G D (.lst ws)) F2 R2 S2 H ∧ RpAll C.K F2 ws acc ∧ Post C σ F2 R2 (RelD C.K) Q ((lcL eff t me vs sl (its.drop i) acc S2).bind fun ps S2 => .ok (.p (.lst ps)) S2)
  have start : Pv 0 (upd H1 D (.lst [])) := ⟨F1, R1, S1, [], [], Same.refl _, pre_refl, rep1.guard hD, .nil, post1⟩
  refine ⟨fun i m H => m = its.length - i ∧ i ≤ its.length ∧ Pv i H, ⟨its.length, rfl, Nat.zero_le _, start⟩, ?_⟩
  rintro i m H ⟨rfl, hi, F2, R2, S2, acc, ws, s2, r2, rep2, hr2, post2⟩
  by_cases hlt : i < its.length
  · have hit : its[i]? = some its[i] := List.getElem?_eq_getElem hlt
    have hd : its.drop i = its[i] :: its.drop (i + 1) := List.drop_eq_getElem_cons hlt
    rw [hd] at post2
    obtain ⟨g1, g2⟩ := ok.go i _ F2 H hit s2 rep2.sub
    refine .inr ⟨g1, Pv (i + 1), fun H' p' => ⟨its.length - (i + 1), by omega, rfl, hlt, p'⟩, fun v H' hy => ?_⟩
    obtain ⟨F3, gr3, rv⟩ := g2 v H' hy
    have rep3 := rep2.grow gr3
    simp only [lcL] at post2
    cases he : eff its[i] (wipeS sl vs) with
    | none => simp only [he] at post2; exact post2.elim
    | some sl3 =>
      simp only [he] at post2
      refine ho _ _ sl3 _ F3 R2 H' v _ he rv ((hs1.mono (s2.trans gr3.sF) r2).wipe vs) gr3.sub fun σ3 hs3 off => ?_
      refine ⟨by rw [off.wipe hj, wipe_wipe], ?_⟩
      have e1 : Same F1 F3 := s2.trans gr3.sF
      cases htt : t sl3 S2 with
      | exc x S4 => simp only [htt] at post2; exact post2.elim
      | no => simp only [htt] at post2; exact post2.elim
      | ok b S4 =>
        refine ht.t _ sl3 S2 σ3 F3 R2 H' hs3 rep3 b S4 htt _ fun F4 R4 H4 rep4 s4 r4 => ?_
        have post2 := Post.mono post2 (gr3.sF.trans s4) r4
        cases b with
        | false =>
          simp only [htt] at post2
          show Pv (i + 1) H4
          exact ⟨F4, R4, S4, acc, ws, e1.trans s4, pre_trans r2 r4, rep4, RpAll.mono (gr3.sF.trans s4) _ _ hr2, post2⟩
        | true =>
          simp only [htt] at post2
          show te σ3 H4 _
          cases hme : me sl3 S4 with
          | exc x S5 => simp only [hme] at post2; exact post2.elim
          | no => simp only [hme] at post2; exact post2.elim
          | ok d S5 =>
            cases d with
            | ref n => simp only [hme] at post2; exact post2.elim
            | p z =>
              simp only [hme] at post2
              refine ht.e _ sl3 S4 σ3 F4 R4 H4 (hs3.mono s4 r4) rep4 _ S5 hme _ fun y F5 R5 H5 ry rep5 s5 r5 => ?_
              have post2 := Post.mono post2 s5 r5
              have hr5 := RpAll.mono ((gr3.sF.trans s4).trans s5) _ _ hr2
              by_cases hl : acc.length < sizeLine
              · simp only [if_pos hl] at post2
                have hD5 : H5 D = some (.lst ws) := by
                  obtain ⟨pc, q⟩ := rep5
                  exact (q.grd D _ upd_same).1
                refine ⟨ws, hD5, by rw [hr5.length]; exact hl, F5, R5, S5, acc ++ [z], ws ++ [y], (e1.trans s4).trans s5, pre_trans (pre_trans r2 r4) r5, rep5.regrow, hr5.append (.cons ry .nil), post2⟩
              · simp only [if_neg hl] at post2; exact post2.elim
  · have e : i = its.length := by omega
    subst e
    rw [List.drop_length] at post2
    refine .inl ⟨ok.stop F2 H s2 rep2.sub, ?_⟩
    obtain ⟨sK, repK⟩ := rep2.known nG
    exact post2 (.ref D) _ R2 H (show RelD C.K _ R2 (.ref D) (.p (.lst acc)) from .lst upd_same (RpAll.mono sK _ _ hr2)) repK sK pre_refl
def TgB (C : Kx) (scope : Scope) (tg : Expr) (g : TG) : Prop := ∀ (s : Shared) (H : Hp) (Cc : Addr) (cl : List (Str × Addr)) (fp : List Addr), PG (C.X.blk s H scope (compEnvC scope cl Cc C.X.env) fp) tg g
theorem ej_lc0 (hc : C.X.calm = true) (hN : C.X.N.Nodup) (hi : PI C.X tg iter wi) (hsrc : SrcOk C wi ms) (ok : BlkOk C.X.N C.X.env.scope scope own) (hg : TgB C scope tg g) (ho : GOk C.K g eff js) (hj : ∀ j ∈ js, j ∈ own.map (·.2)) (he : EjB C scope me elt)
    (hf : ∀ x, foldedSetIterable iter C.X.env x = pure x := by intro _; rfl) : Ej C (eLc ms eff tYes me (own.map (·.2))) (.ListComp elt [⟨tg, iter, [], 0⟩] scope pos) := .mk fun sl S σ F R H hs hr Q post =>
  ED.of (pe_lc hc hN hi ok hg (fun _ _ _ _ _ => pts_nil) (fun s H Cc cl fp => pe_b s H Cc cl fp) hf) (lc_read hs hr hsrc ho hj ⟨fun G sl S σ F R H hs hr b S1 e Q k => by cases e; exact k F R H hr (Same.refl _) pre_refl, turn_e he⟩ post)
theorem ej_lc1 (hc : C.X.calm = true) (hN : C.X.N.Nodup) (hi : PI C.X tg iter wi) (hsrc : SrcOk C wi ms) (ok : BlkOk C.X.N C.X.env.scope scope own) (hg : TgB C scope tg g) (ho : GOk C.K g eff js) (hj : ∀ j ∈ js, j ∈ own.map (·.2)) (htt : TjB C scope t c) (he : EjB C scope me elt)
    (hf : ∀ x, foldedSetIterable iter C.X.env x = pure x := by intro _; rfl) : Ej C (eLc ms eff t me (own.map (·.2))) (.ListComp elt [⟨tg, iter, [c], 0⟩] scope pos) := .mk fun sl S σ F R H hs hr Q post =>
  ED.of (pe_lc hc hN hi ok hg (fun s H Cc cl fp => pts_one (pt_b s H Cc cl fp)) (fun s H Cc cl fp => pe_b s H Cc cl fp) hf) (lc_read hs hr hsrc ho hj ⟨turn_t htt, turn_e he⟩ post)
end
end Z

namespace Z
open PySem PySem.Spec PyProof.Rows L2
/-! ### defs -/
abbrev Fn := List D → Store → Rs D
def PostF (K : Fr) (G F : Hp) (R : List Addr) (Q : VK) (E : XK) : Rs D → Prop
  | .ok d S' => ∀ v F' R' H', RelD K F' R' v d → Rep K G F' R' S' H' → Same F F' → R <+: R' → Q v H'
  | .exc x S' => ∀ cls d F' R' H', XRel K F' cls d x → Rep K G F' R' S' H' → Same F F' → R <+: R' → E cls d H'
  | .no => False
/-- the promise of a def that computes f -/
def spF (K : Fr) (n : Nat) (f : Fn) : Sp := fun vs H Q E => vs.length = n ∧ ∃ G F R S ds, Rep K G F R S H ∧ RelAll K F R vs ds ∧ PostF K G F R Q E (f ds S)
def DefAt (K : PySem.W.Frag) (mg : Str → Option Value) (x : Str) (st : Stmt) : Prop := (∃ fd, FunD K x x (defArgs st) (defBody st) (defScope st) [] [] (He.ga K x) fd) ∧ mg x = some (.ref (He.ga K x))
abbrev BindsBy (x : Str) (ps : List Str) (st : Stmt) : Prop := ∀ (kV doc pm : Value) (an : Option Addr) (cdv ct : Value) (us : List Value), us.length = ps.length → bindArgs (PySem.W.fnOf x x (defArgs st) (defBody st) (defScope st) .none kV doc pm an cdv ct) ⟨us, []⟩ = pure (ps.zip us)
def OkF (P : Program) (w : World) (K : PySem.W.Frag) (mg : Str → Option Value) (base : Heap) (k : Nat) (x : Str) (ps : List Str) (f : Fn) : Prop :=
  ∃ fd, FnOk P w K mg base (L2.CX P w) k (He.ga K x) fd ps (spF ⟨K, P, w⟩ ps.length f) ∧ Binds K fd ps [] ∧ PySem.W.keepIn K (.ref (He.ga K x)) = true ∧ mg x = some (.ref (He.ga K x)) ∧ ∃ oc od osl, K.lookup (He.ga K x) = some ⟨oc, od, .func fd, osl⟩
def ent (n : Nat) (ds : List D) : Slots := ds.map some ++ List.replicate (n - ds.length) none
def runB (n : Nat) (b : MS) : Fn := fun ds S => match b (ent n ds) S with
  | .nx _ S' => .ok (.p .non) S'
  | .rt d S' => .ok d S'
  | .exc x _ S' => .exc x S'
  | _ => .no
abbrev cxZ (P : Program) (w : World) (K : PySem.W.Frag) (mg : Str → Option Value) (base : Heap) (N : List Str) (qual : Str) (sc : Scope) (f : Addr) (cdv : Value) (A : Around) (outer : List Env) (s : Shared) (H : Hp) (E : XK) (G : Hp) : Kx :=
  ⟨cxOf (L2.CX P w) P w K mg base N qual sc f cdv A outer s H E, fun cls d _ H => E cls d H, takes_of rfl rfl rfl rfl, G, Pin.nil⟩
section
variable {P : Program} {w : World} {K : PySem.W.Frag} {mg : Str → Option Value} {base : Heap} {k : Nat} {x : Str} {N ps : List Str} {st : Stmt} {f : Fn} {b : MS}
theorem ent_rel {K : Fr} {F : Hp} {R : List Addr} {vs : List V} {ds : List D} (h : RelAll K F R vs ds) : SlR K Pin.nil F R (start N vs) (ent N.length ds) := by
  have hl := h.length
  refine ⟨?_, fun i d e => ?_, trivial⟩
  · unfold L2.start ent
    rw [List.length_append, List.length_append, List.length_map, List.length_map, List.length_replicate, List.length_replicate, hl]
  · unfold ent at e
    by_cases hi : i < ds.length
    · rw [List.getElem?_append_left (by rw [List.length_map]; exact hi), List.getElem?_map] at e
      cases hT : ds[i]? with
      | none => rw [hT] at e; cases e
      | some T =>
        rw [hT] at e
        cases e
        obtain ⟨v, e1, e2⟩ := RelAll.get' h hT
        refine ⟨v, ?_, e2⟩
        unfold L2.start
        rw [List.getElem?_append_left (by rw [List.length_map, hl]; exact hi), List.getElem?_map, e1]
        rfl
    · rw [List.getElem?_append_right (by rw [List.length_map]; omega), List.getElem?_replicate] at e
      split at e <;> cases e
theorem ok_fn (D : DefAt K mg x st) (S : FnScope N ps (defScope st)) (hb : BindsBy x ps st)
    (body : ∀ (cdv : Value) (A : Around) (outer : List Env) (s : Shared) (H : Hp) (E : XK) (G : Hp), Room k (A.deeper (envOfC x (defScope st) s.heap.objs.size (He.ga K x) cdv)) → Sj (cxZ P w K mg base N x (defScope st) (He.ga K x) cdv A outer s H E G) b (defBody st)) : OkF P w K mg base (k + 1) x ps (runB N.length b) := by
  obtain ⟨⟨fd, Fu⟩, hm⟩ := D
  refine ⟨fd, Fu.ok S (fun vs H Q E h => h.1) (fun cdv A outer s H vs Q E hr h => ?_), Fu.bindsN hb, Fu.kp, hm, let ⟨oc, od, _, _, _, _, _, _, _, osl, _, lk, _⟩ := Fu.ex; ⟨oc, od, osl, lk⟩⟩
  obtain ⟨hl, G, F, R, S0, ds, rep, rx, post⟩ := h
  refine ⟨_, pss_d, body cdv A outer s H E G hr _ S0 _ F R H (ent_rel rx) rep _ ?_⟩
  unfold runB at post
  cases hbb : b (ent N.length ds) S0 with
  | nx sl S' =>
    rw [hbb] at post
    exact fun σ' F' R' H' _ h2 h3 h4 => post .non F' R' H' (show RelD ⟨K, P, w⟩ F' R' .non (.p .non) from .non) h2 h3 h4
  | rt d S' => rw [hbb] at post; exact post
  | exc x sl S' =>
    rw [hbb] at post
    exact fun cls d σ' F' R' H' h0 _ h2 h3 h4 => post cls d F' R' H' h0 h2 h3 h4
  | bk sl S' => rw [hbb] at post; exact post.elim
  | ct sl S' => rw [hbb] at post; exact post.elim
  | no => rw [hbb] at post; exact post.elim
theorem OkF.mono {j : Nat} (h : OkF P w K mg base k x ps f) (hj : k ≤ j) : OkF P w K mg base j x ps f := by
  obtain ⟨fd, h1, h2⟩ := h
  exact ⟨fd, h1.mono hj, h2⟩
theorem OkF.imp {f' : Fn} (h : OkF P w K mg base k x ps f) (hf : ∀ G F R S ds H (Q : VK) (E : XK), Rep ⟨K, P, w⟩ G F R S H → PostF ⟨K, P, w⟩ G F R Q E (f' ds S) → PostF ⟨K, P, w⟩ G F R Q E (f ds S)) : OkF P w K mg base k x ps f' := by
  obtain ⟨fd, h1, h2⟩ := h
  exact ⟨fd, h1.imp fun vs H Q E ⟨hl, G, F, R, S, ds, rep, rx, post⟩ => ⟨hl, G, F, R, S, ds, rep, rx, hf G F R S ds H Q E rep post⟩, h2⟩
end
section
variable {C : Kx} {a b c e : Expr} {es rest : List Expr} {pos p : Pos} {x : Str} {ma : MA} {f : Fn} {k : Nat} {ps : List Str}
def eCall (n : Nat) (f : Fn) (ma : MA) : M := fun sl S => (ma sl S).bind fun ds S1 => if ds.length = n then f ds S1 else .no
abbrev Kx.ok (C : Kx) (k : Nat) (x : Str) (ps : List Str) (f : Fn) : Prop := OkF C.X.prog C.X.w C.X.K C.X.mg C.X.base k x ps f
theorem post_of {σ : L2.St} {F : Hp} {R : List Addr} {Q : VK} {r : Rs D} (h : Post C σ F R (RelD C.K) Q r) : PostF C.K C.G F R Q (WE C.W σ) r := by
  cases r with
  | ok d S => exact h
  | exc x S => exact h
  | no => exact h
theorem ej_call (hF : C.ok k x ps f) (hr : Room k C.X.A) (h : Aj C ma (e :: es)) (hg : Gl C.X x := by rfl) (hdb : (x == ("__debug__" : Str)) = false := by decide) (he : starEach (e :: es) C.X.env = (false, eval e C.X.env) :: starEach es C.X.env := by exact se_of rfl) (hpl : (backTo pos (starEach es C.X.env)).any (·.1) = false := by exact pl_of rfl) :
    Ej C (eCall ps.length f ma) (.Call (.Name x p) (e :: es) [] pos) := .mk fun sl S σ F R H hs hr' Q post => by
  obtain ⟨fd, h1, h2, h3, h4, _⟩ := hF
  refine ED.of (pe_callS h1 hr hg h4 h3 h2 (fun σ => passAt C.tk σ) pa_d hdb he hpl) (h sl S σ F R H hs hr' _ (Post.bind post fun ds S1 vs F1 R1 H1 _ rx rep1 s1 r1 post1 => ?_))
  by_cases hl : ds.length = ps.length
  · rw [if_pos hl] at post1
    exact ⟨by rw [rx.length]; exact hl, C.G, F1, R1, S1, ds, rep1, rx, post_of post1⟩
  · rw [if_neg hl] at post1; exact post1.elim
end
end Z

namespace Z
open PySem PySem.Spec PyProof.Rows L2
/-! ### live lists -/
section
variable {C : Kx} {a b c e o tg : Expr} {es rest : List Expr} {pos p apos cpos : Pos} {x : Str} {m mo me : M} {ma : MA} {K : Fr} {r : V → List V → Hp → VK → Prop}
/-- a method that changes a live list: its items, the arguments; the answer, the items behind -/
def eLm (f : List D → List D → Option (D × List D)) (mo : M) (ma : MA) : M := fun sl S => (mo sl S).bind fun d S1 => match d with
  | .ref n => match S1[n]? with
    | some (.lst _) => (ma sl S1).bind fun as S2 => match S2[n]? with
      | some (.lst ds) => match f ds as with
        | some (d, ds') => .ok d (S2.set n (.lst ds'))
        | none => .no
      | _ => .no
    | _ => .no
  | _ => .no
def LmOk (r : V → List V → Hp → VK → Prop) (f : List D → List D → Option (D × List D)) : Prop := ∀ (K : Fr) F R ds as d ds' vs (l : Addr) xs H (Q : VK), f ds as = some (d, ds') → RelAll K F R vs ds → RelAll K F R xs as → H l = some (.lst vs) → (∀ v vs', RelD K F R v d → RelAll K F R vs' ds' → Q v (upd H l (.lst vs'))) → r (.ref l) xs H Q
theorem Rep.lstAt {G F H : Hp} {R : List Addr} {S : Store} {n : Nat} {ds : List D} (h : Rep K G F R S H) (e : S[n]? = some (.lst ds)) : ∃ l vs, R[n]? = some l ∧ H l = some (.lst vs) ∧ RelAll K F R vs ds := by
  obtain ⟨a, q, e1, ok, out⟩ := h.at e
  cases ok with
  | @lst vs ds hr => exact ⟨a, vs, e1, (out a _ one_same).2, hr⟩
theorem Rep.lstSet {G F H : Hp} {R : List Addr} {S : Store} {n : Nat} {ds ds' : List D} {l : Addr} {vs' : List V} (h : Rep K G F R S H) (e : S[n]? = some (.lst ds)) (el : R[n]? = some l) (hv : RelAll K F R vs' ds') : Rep K G F R (S.set n (.lst ds')) (upd H l (.lst vs')) :=
  h.mut (q' := id) e el fun q ok _ => by
    cases ok with
    | @lst vs ds hr =>
      refine ⟨by rw [one_same]; exact fun z => (nomatch z), ?_⟩
      have e : upd (one l (.lst vs)) l (.lst vs') = one l (.lst vs') := by
        funext a
        unfold upd one
        by_cases ha : a = l
        · rw [if_pos ha, if_pos ha]
        · rw [if_neg ha, if_neg ha, if_neg ha]
      rw [e]
      exact .lst hv
theorem ej_lm {f : List D → List D → Option (D × List D)} (hp : PE C.X e (tBM C.X.K "list" r (ED C.X o) (AD C.X es))) (hf : LmOk r f) (h1 : Ej C mo o) (h2 : Aj C ma es) : Ej C (eLm f mo ma) e := .mk fun sl S σ F R H hs hr Q post =>
  ED.of hp (h1 sl S σ F R H hs hr _ (Post.bind post fun d S1 v F1 R1 H1 _ rv rep1 s1 r1 post1 => by
    cases d with
    | p q => exact post1.elim
    | ref n =>
      cases hn : S1[n]? with
      | none => simp only [hn] at post1; exact post1.elim
      | some cl =>
        cases cl with
        | lst ds0 =>
          simp only [hn] at post1
          obtain ⟨l, vs0, e1, e2, _⟩ := rep1.lstAt hn
          obtain ⟨l', e1', rfl⟩ := rv
          rw [e1] at e1'; cases e1'
          refine ⟨.inl ⟨rfl, vs0, .inl (.inl e2)⟩, h2 sl S1 σ F1 R1 H1 (hs.mono s1 r1) rep1 _ (Post.bind post1 fun as S2 xs F2 R2 H2 _ rx rep2 s2 r2 post2 => ?_)⟩
          cases hn2 : S2[n]? with
          | none => simp only [hn2] at post2; exact post2.elim
          | some cl =>
            cases cl with
            | lst ds =>
              simp only [hn2] at post2
              cases hff : f ds as with
              | none => simp only [hff] at post2; exact post2.elim
              | some q =>
                obtain ⟨d, ds'⟩ := q
                simp only [hff] at post2
                obtain ⟨l2, vs, e3, e4, hr4⟩ := rep2.lstAt hn2
                have e5 := pre_get r2 e1
                rw [e3] at e5; cases e5
                exact hf C.K F2 R2 ds as d ds' vs l xs H2 Q hff hr4 rx e4 fun v vs' hv hvs => post2 v F2 R2 _ hv (rep2.lstSet hn2 e3 hvs) (Same.refl _) pre_refl
            | _ => simp only [hn2] at post2; exact post2.elim
        | _ => simp only [hn] at post1; exact post1.elim))
/-! append, pop, reverse, insert, clear -/
def fApp (ds : List D) : List D → Option (D × List D)
  | [d] => if ds.length < sizeLine then some (.p .non, ds ++ [d]) else none
  | _ => none
theorem lm_app : LmOk rAppend fApp := fun K F R ds as d ds' vs l xs H Q e hv hx hl k => by
  unfold fApp at e
  split at e
  · obtain ⟨hc, e⟩ := if_some e
    cases e
    cases hx with
    | cons hx1 hx2 => cases hx2; exact ⟨l, vs, _, rfl, rfl, hl, by rw [hv.length]; exact hc, k .non _ (show RelD K F R .non (.p .non) from .non) (hv.append (.cons hx1 .nil))⟩
  · cases e
abbrev Bs (C : Kx) (o : Expr) (name : Str) : Prop := attributeBase o name C.X.env (eval o C.X.env) = eval o C.X.env
abbrev Few (C : Kx) (es : List Expr) (cpos : Pos) : Prop := ((backTo cpos (starEach es C.X.env)).all (fun x => !x.1) && (backToKw cpos (keywordEach [] C.X.env)).all (fun x => x.1.isSome)
      && decide (es.length + ([] : List Keyword).length + (if ([] : List Keyword).isEmpty then 0 else 1) < 30)) = true
theorem ej_app (h1 : Ej C mo o) (h2 : Ej C me e) (hbase : Bs C o "append" := by rfl) (hfew : Few C [e] cpos := by rfl) (hline : (apos.endLine == cpos.line) = true := by rfl) (hs : starEach [e] C.X.env = (false, eval e C.X.env) :: starEach [] C.X.env := by exact se_of rfl) :
    Ej C (eLm fApp mo (aC me aN)) (.Call (.Attribute o "append" apos) [e] [] cpos) :=
  ej_lm (pe_bm PySem.F.plainAttrs_list PySem.F.slot_list_append PySem.F.type_list_append mt_append pe_d pa_d hbase hfew hline hs) lm_app h1 (aj_cons h2 aj_nil hs)
def fPop (ds : List D) : List D → Option (D × List D)
  | [] => match ds[ds.length - 1]? with
    | some d => some (d, ds.dropLast)
    | none => none
  | _ => none
theorem RelAll.dropLast {F : Hp} {R : List Addr} : ∀ {vs : List V} {ds : List D}, RelAll K F R vs ds → RelAll K F R vs.dropLast ds.dropLast
  | _, _, .nil => .nil
  | _, _, .cons h .nil => .nil
  | _, _, .cons h (.cons h2 t) => .cons h (RelAll.dropLast (.cons h2 t))
theorem lm_pop : LmOk rPop fPop := fun K F R ds as d ds' vs l xs H Q e hv hx hl k => by
  unfold fPop at e
  split at e
  · split at e
    · rename_i d' hd
      cases e
      cases hx
      obtain ⟨v, e1, e2⟩ := RelAll.get' hv hd
      exact ⟨l, vs, v, rfl, rfl, hl, by rw [hv.length]; exact e1, k v _ e2 hv.dropLast⟩
    · cases e
  · cases e
def fRev (ds : List D) : List D → Option (D × List D)
  | [] => some (.p .non, ds.reverse)
  | _ => none
theorem RelAll.rev {F : Hp} {R : List Addr} {vs : List V} {ds : List D} (h : RelAll K F R vs ds) : RelAll K F R vs.reverse ds.reverse := by
  induction h with
  | nil => exact .nil
  | cons h t ih =>
    rw [List.reverse_cons, List.reverse_cons]
    exact ih.append (.cons h .nil)
theorem lm_rev : LmOk rReverse fRev := fun K F R ds as d ds' vs l xs H Q e hv hx hl k => by
  unfold fRev at e
  split at e
  · cases e
    cases hx
    exact ⟨l, vs, rfl, rfl, hl, k .non _ (show RelD K F R .non (.p .non) from .non) hv.rev⟩
  · cases e
theorem ej_lm0 {f : List D → List D → Option (D × List D)} (hp : PE C.X e (tBM0 C.X.K "list" r (ED C.X o))) (hf : LmOk r f) (h1 : Ej C mo o) : Ej C (eLm f mo aN) e := .mk fun sl S σ F R H hs hr Q post =>
  ED.of hp (h1 sl S σ F R H hs hr _ (Post.bind post fun d S1 v F1 R1 H1 _ rv rep1 s1 r1 post1 => by
    cases d with
    | p q => exact post1.elim
    | ref n =>
      cases hn : S1[n]? with
      | none => simp only [hn] at post1; exact post1.elim
      | some cl =>
        cases cl with
        | lst ds =>
          simp only [hn, aN, Rs.bind] at post1
          obtain ⟨l, vs, e1, e2, hr4⟩ := rep1.lstAt hn
          obtain ⟨l', e1', rfl⟩ := rv
          rw [e1] at e1'; cases e1'
          refine ⟨.inl ⟨rfl, vs, .inl (.inl e2)⟩, ?_⟩
          cases hff : f ds [] with
          | none => simp only [hff] at post1; exact post1.elim
          | some q =>
            obtain ⟨d, ds'⟩ := q
            simp only [hff] at post1
            exact hf C.K F1 R1 ds [] d ds' vs l [] H1 Q hff hr4 .nil e2 fun v vs' hv hvs => post1 v F1 R1 _ hv (rep1.lstSet hn e1 hvs) (Same.refl _) pre_refl
        | _ => simp only [hn] at post1; exact post1.elim))
theorem ej_pop (h1 : Ej C mo o) (hbase : Bs C o "pop" := by rfl) (hline : (apos.endLine == cpos.line) = true := by rfl) : Ej C (eLm fPop mo aN) (.Call (.Attribute o "pop" apos) [] [] cpos) :=
  ej_lm0 (pe_bm0 PySem.F.plainAttrs_list PySem.F.slot_list_pop PySem.F.type_list_pop mt_pop pe_d hbase hline) lm_pop h1
theorem ej_rev (h1 : Ej C mo o) (hbase : Bs C o "reverse" := by rfl) (hline : (apos.endLine == cpos.line) = true := by rfl) : Ej C (eLm fRev mo aN) (.Call (.Attribute o "reverse" apos) [] [] cpos) :=
  ej_lm0 (pe_bm0 PySem.F.plainAttrs_list PySem.F.slot_list_reverse PySem.F.type_list_reverse mt_reverse pe_d hbase hline) lm_rev h1
def fPopAt (ds : List D) : List D → Option (D × List D)
  | [.p (.int i)] => if -(2 ^ 63) ≤ i ∧ i < 2 ^ 63 then match ixN ds.length i with
      | some k => match ds[k]? with
        | some d => some (d, ds.eraseIdx k)
        | none => none
      | none => none
    else none
  | _ => none
theorem RelAll.erase {F : Hp} {R : List Addr} : ∀ {vs : List V} {ds : List D} (k : Nat), RelAll K F R vs ds → RelAll K F R (vs.eraseIdx k) (ds.eraseIdx k)
  | _, _, _, .nil => .nil
  | _, _, 0, .cons _ t => t
  | _, _, k + 1, .cons h t => .cons h (RelAll.erase k t)
theorem lm_popAt : LmOk rPopAt fPopAt := fun K F R ds as d ds' vs l xs H Q e hv hx hl k => by
  unfold fPopAt at e
  split at e
  · rename_i i
    split at e
    · rename_i hc
      split at e
      · rename_i j hj
        split at e
        · rename_i d' hd
          cases e
          cases hx with
          | cons hx1 hx2 =>
            cases hx2
            cases hx1
            obtain ⟨v, e1, e2⟩ := RelAll.get' hv hd
            exact ⟨l, vs, i, j, v, rfl, rfl, hl, hc.1, hc.2, by rw [hv.length]; exact (ixN_seq hj).1, e1, k v _ e2 (hv.erase j)⟩
        · cases e
      · cases e
    · cases e
  · cases e
theorem ej_popAt (h1 : Ej C mo o) (h2 : Ej C me e) (hbase : Bs C o "pop" := by rfl) (hfew : Few C [e] cpos := by rfl) (hline : (apos.endLine == cpos.line) = true := by rfl) (hs : starEach [e] C.X.env = (false, eval e C.X.env) :: starEach [] C.X.env := by exact se_of rfl) :
    Ej C (eLm fPopAt mo (aC me aN)) (.Call (.Attribute o "pop" apos) [e] [] cpos) :=
  ej_lm (pe_bm PySem.F.plainAttrs_list PySem.F.slot_list_pop PySem.F.type_list_pop mt_popAt pe_d pa_d hbase hfew hline hs) lm_popAt h1 (aj_cons h2 aj_nil hs)
/-! extend: by what stands still or a live list of such -/
def eExt (mo me : M) : M := fun sl S => (mo sl S).bind fun d S1 => match d with
  | .ref n => match S1[n]? with
    | some (.lst _) => (me sl S1).bind fun a S2 => match S2[n]?, view S2 a with
      | some (.lst ds), some (.lst ps) => if ds.length + ps.length ≤ sizeLine then .ok (.p .non) (S2.set n (.lst (ds ++ ps.map .p))) else .no
      | _, _ => .no
    | _ => .no
  | _ => .no
theorem ej_ext (h1 : Ej C mo o) (h2 : Ej C me e) (hbase : Bs C o "extend" := by rfl) (hfew : Few C [e] cpos := by rfl) (hline : (apos.endLine == cpos.line) = true := by rfl) (hse : starEach [e] C.X.env = (false, eval e C.X.env) :: starEach [] C.X.env := by exact se_of rfl) :
    Ej C (eExt mo me) (.Call (.Attribute o "extend" apos) [e] [] cpos) := .mk fun sl S σ F R H hs hr Q post =>
  ED.of (pe_bm PySem.F.plainAttrs_list PySem.F.slot_list_extend PySem.F.type_list_extend mt_extend pe_d (pa_cons pe_d pa_nil hse) hbase hfew hline hse) (h1 sl S σ F R H hs hr _ (Post.bind post fun d S1 v F1 R1 H1 _ rv rep1 s1 r1 post1 => by
    cases d with
    | p q => exact post1.elim
    | ref n =>
      cases hn : S1[n]? with
      | none => simp only [hn] at post1; exact post1.elim
      | some cl =>
        cases cl with
        | lst ds0 =>
          simp only [hn] at post1
          obtain ⟨l, vs0, e1, e2, _⟩ := rep1.lstAt hn
          obtain ⟨l', e1', rfl⟩ := rv
          rw [e1] at e1'; cases e1'
          refine ⟨.inl ⟨rfl, vs0, .inl (.inl e2)⟩, h2 sl S1 σ F1 R1 H1 (hs.mono s1 r1) rep1 _ (Post.bind post1 fun a S2 y F2 R2 H2 _ ry rep2 s2 r2 post2 => ?_)⟩
          cases hn2 : S2[n]? with
          | none => simp only [hn2] at post2; exact post2.elim
          | some cl =>
            cases cl with
            | lst ds =>
              cases hv : view S2 a with
              | none => simp only [hn2, hv] at post2; exact post2.elim
              | some q =>
                cases q with
                | lst ps =>
                  simp only [hn2, hv] at post2
                  by_cases hl : ds.length + ps.length ≤ sizeLine
                  · rw [if_pos hl] at post2
                    obtain ⟨l2, vs, e3, e4, hr4⟩ := rep2.lstAt hn2
                    have e5 := pre_get r2 e1
                    rw [e3] at e5; cases e5
                    obtain ⟨b, ws, rfl, e6, hr6⟩ := (view_vw ry rep2 hv).lstE rep2.sub
                    exact ⟨l, b, vs, ws, rfl, rfl, e4, e6, by rw [hr4.length, hr6.length]; exact hl, post2 .non F2 R2 _ (show RelD C.K F2 R2 .non (.p .non) from .non) (rep2.lstSet hn2 e3 (hr4.append (RelAll.of_p hr6))) (Same.refl _) pre_refl⟩
                  · rw [if_neg hl] at post2; exact post2.elim
                | _ => simp only [hn2, hv] at post2; exact post2.elim
            | _ => simp only [hn2] at post2; exact post2.elim
        | _ => simp only [hn] at post1; exact post1.elim))
/-! x[i] = e, x a live list -/
def sIxSet (mo mi me : M) : MS := fun sl S => (me sl S).st sl fun v S1 => (mo sl S1).st sl fun d S2 => (mi sl S2).st sl fun i S3 => match d, i with
  | .ref n, .p (.int k) => match S3[n]? with
    | some (.lst ds) => match ixN ds.length k with
      | some j => .nx sl (S3.set n (.lst (ds.set j v)))
      | none => .no
    | _ => .no
  | _, _ => .no
theorem sj_ixset {mi : M} (h0 : Ej C me e) (h1 : Ej C mo o) (h2 : Ej C mi a) (ha : ∀ v, assign (.Subscript o a apos) C.X.env v = (do
      let ov ← holding [v] (eval o C.X.env)
      let iv ← holding [v, ov] (eval a C.X.env)
      standAt apos
      holding [v, ov, iv] (setItem ov iv v)
      release [v, ov, iv] []) := by intro _; rfl) (hs' : swapsWithSole [.Subscript o a apos] e pos.line C.X.env = pure false := by rfl) (hw : swappedStores [.Subscript o a apos] e C.X.env = pure none := by rfl)
    (h1' : (assignEach [.Subscript o a apos] C.X.env).map (·.2) = [assign (.Subscript o a apos) C.X.env] := by rfl) : Sj1 C (sIxSet mo mi me) (.Assign [.Subscript o a apos] e pos) := .mk fun sl S σ F R H hs hr D post =>
  SD1.of (ps_asg pe_d (pg_sub pe_d pe_d set_list ha) hs' hw h1') (h0 sl S σ F R H hs hr _ (PostS.bind post hs fun v S1 x F1 R1 H1 _ rx rep1 s1 r1 hs1 post1 => h1 sl S1 σ F1 R1 H1 hs1 rep1 _ (PostS.bind post1 hs1 fun d S2 y F2 R2 H2 _ ry rep2 s2 r2 hs2 post2 => h2 sl S2 σ F2 R2 H2 hs2 rep2 _ (PostS.bind post2 hs2 fun i S3 z F3 R3 H3 _ rz rep3 s3 r3 hs3 post3 => by
    cases d with
    | p q => exact post3.elim
    | ref n =>
      cases i with
      | ref n => exact post3.elim
      | p q =>
        cases q with
        | int k =>
          cases hn : S3[n]? with
          | none => simp only [hn] at post3; exact post3.elim
          | some cl =>
            cases cl with
            | lst ds =>
              simp only [hn] at post3
              cases hj : ixN ds.length k with
              | none => simp only [hj] at post3; exact post3.elim
              | some j =>
                simp only [hj] at post3
                obtain ⟨l, vs, e1, e2, hr4⟩ := rep3.lstAt hn
                obtain ⟨l', e1', rfl⟩ := ry.mono s3 r3
                rw [e1] at e1'; cases e1'
                cases rz
                exact ⟨l, vs, k, j, rfl, rfl, e2, by rw [hr4.length]; exact hj, post3 σ F3 R3 _ hs3 (rep3.lstSet hn e1 (RelAll.set ((rx.mono s2 r2).mono s3 r3) j hr4)) (Same.refl _) pre_refl⟩
            | _ => simp only [hn] at post3; exact post3.elim
        | _ => exact post3.elim))))
end
end Z

namespace Z
open PySem PySem.Spec PyProof.Rows L2
/-! ### equal stores -/
mutual
def beqP : P → P → Bool
  | .non, .non => true
  | .bl a, .bl b => a == b
  | .int i, .int j => i == j
  | .str x, .str y => decide (x = y)
  | .tup xs, .tup ys => beqPs xs ys
  | .lst xs, .lst ys => beqPs xs ys
  | .dic a ks xs, .dic b ls ys => a == b && beqPs ks ls && beqPs xs ys
  | .ins c ks xs, .ins d ls ys => decide (c = d) && decide (ks = ls) && beqPs xs ys
  | .glo x, .glo y => decide (x = y)
  | .ty x, .ty y => decide (x = y)
  | .scr x, .scr y => decide (x = y)
  | .exv c ks xs, .exv d ls ys => decide (c = d) && decide (ks = ls) && beqPs xs ys
  | _, _ => false
def beqPs : List P → List P → Bool
  | [], [] => true
  | x :: xs, y :: ys => beqP x y && beqPs xs ys
  | _, _ => false
end
mutual
theorem beqP_eq : ∀ (p q : P), beqP p q = true → p = q
  | .non, q, h => by cases q <;> first | rfl | (simp [beqP] at h)
  | .bl a, q, h => by cases q <;> first | (simp [beqP] at h; done) | (simp [beqP] at h; rw [h])
  | .int a, q, h => by cases q <;> first | (simp [beqP] at h; done) | (simp [beqP] at h; rw [h])
  | .str a, q, h => by cases q <;> first | (simp [beqP] at h; done) | (simp [beqP] at h; rw [h])
  | .tup xs, q, h => by cases q <;> first | (simp [beqP] at h; done) | (simp [beqP] at h; rw [beqPs_eq _ _ h])
  | .lst xs, q, h => by cases q <;> first | (simp [beqP] at h; done) | (simp [beqP] at h; rw [beqPs_eq _ _ h])
  | .dic a ks xs, q, h => by cases q <;> first | (simp [beqP] at h; done) | (simp [beqP] at h; rw [h.1.1, beqPs_eq _ _ h.1.2, beqPs_eq _ _ h.2])
  | .ins c ks xs, q, h => by cases q <;> first | (simp [beqP] at h; done) | (simp [beqP] at h; rw [h.1.1, h.1.2, beqPs_eq _ _ h.2])
  | .glo a, q, h => by cases q <;> first | (simp [beqP] at h; done) | (simp [beqP] at h; rw [h])
  | .ty a, q, h => by cases q <;> first | (simp [beqP] at h; done) | (simp [beqP] at h; rw [h])
  | .scr a, q, h => by cases q <;> first | (simp [beqP] at h; done) | (simp [beqP] at h; rw [h])
  | .exv c ks xs, q, h => by cases q <;> first | (simp [beqP] at h; done) | (simp [beqP] at h; rw [h.1.1, h.1.2, beqPs_eq _ _ h.2])
theorem beqPs_eq : ∀ (xs ys : List P), beqPs xs ys = true → xs = ys
  | [], ys, h => by cases ys <;> first | rfl | (simp [beqPs] at h)
  | x :: xs, ys, h => by
    cases ys with
    | nil => simp [beqPs] at h
    | cons y ys => simp [beqPs] at h; rw [beqP_eq _ _ h.1, beqPs_eq _ _ h.2]
end
mutual
theorem beqP_refl : ∀ p : P, beqP p p = true
  | .non => by simp [beqP]
  | .bl _ => by simp [beqP]
  | .int _ => by simp [beqP]
  | .str _ => by simp [beqP]
  | .tup xs => by simp [beqP, beqPs_refl xs]
  | .lst xs => by simp [beqP, beqPs_refl xs]
  | .dic _ ks xs => by simp [beqP, beqPs_refl xs, beqPs_refl ks]
  | .ins c ks xs => by simp [beqP, beqPs_refl xs]
  | .glo _ => by simp [beqP]
  | .ty _ => by simp [beqP]
  | .scr _ => by simp [beqP]
  | .exv c ks xs => by simp [beqP, beqPs_refl xs]
theorem beqPs_refl : ∀ xs : List P, beqPs xs xs = true
  | [] => by simp [beqPs]
  | x :: xs => by simp [beqPs, beqP_refl x, beqPs_refl xs]
end
instance : DecidableEq P := fun p q => if h : beqP p q = true then isTrue (beqP_eq p q h) else isFalse fun e => h (e ▸ beqP_refl p)
instance : DecidableEq D := fun a b => match a, b with
  | .p x, .p y => if h : x = y then isTrue (h ▸ rfl) else isFalse fun e => h (D.p.inj e)
  | .ref x, .ref y => if h : x = y then isTrue (h ▸ rfl) else isFalse fun e => h (D.ref.inj e)
  | .p _, .ref _ => isFalse fun e => nomatch e
  | .ref _, .p _ => isFalse fun e => nomatch e
instance : DecidableEq Cell := fun a b => match a, b with
  | .lst x, .lst y => if h : x = y then isTrue (h ▸ rfl) else isFalse fun e => h (Cell.lst.inj e)
  | .dic a x y, .dic b z w => if h : a = b ∧ x = z ∧ y = w then isTrue (h.1 ▸ h.2.1 ▸ h.2.2 ▸ rfl) else isFalse fun e => h (Cell.dic.inj e)
  | .ins c x y, .ins d z w => if h : c = d ∧ x = z ∧ y = w then isTrue (h.1 ▸ h.2.1 ▸ h.2.2 ▸ rfl) else isFalse fun e => h (Cell.ins.inj e)
  | .dead, .dead => isTrue rfl
  | .lst _, .dic _ _ _ => isFalse fun e => nomatch e
  | .lst _, .ins _ _ _ => isFalse fun e => nomatch e
  | .lst _, .dead => isFalse fun e => nomatch e
  | .dic _ _ _, .lst _ => isFalse fun e => nomatch e
  | .dic _ _ _, .ins _ _ _ => isFalse fun e => nomatch e
  | .dic _ _ _, .dead => isFalse fun e => nomatch e
  | .ins _ _ _, .lst _ => isFalse fun e => nomatch e
  | .ins _ _ _, .dic _ _ _ => isFalse fun e => nomatch e
  | .ins _ _ _, .dead => isFalse fun e => nomatch e
  | .dead, .lst _ => isFalse fun e => nomatch e
  | .dead, .dic _ _ _ => isFalse fun e => nomatch e
  | .dead, .ins _ _ _ => isFalse fun e => nomatch e
  | .tab x, .tab y => if h : x = y then isTrue (h ▸ rfl) else isFalse fun e => h (Cell.tab.inj e)
  | .tab _, .lst _ => isFalse fun e => nomatch e
  | .lst _, .tab _ => isFalse fun e => nomatch e
  | .tab _, .dic _ _ _ => isFalse fun e => nomatch e
  | .dic _ _ _, .tab _ => isFalse fun e => nomatch e
  | .tab _, .ins _ _ _ => isFalse fun e => nomatch e
  | .ins _ _ _, .tab _ => isFalse fun e => nomatch e
  | .tab _, .dead => isFalse fun e => nomatch e
  | .dead, .tab _ => isFalse fun e => nomatch e

/-! ### what is made in a def stands still behind it -/
def mapO {α β : Type} (f : α → Option β) : List α → Option (List β)
  | [] => some []
  | a :: as => match f a, mapO f as with
    | some b, some bs => some (b :: bs)
    | _, _ => none
def fzD (S : Store) (n0 : Nat) : Nat → D → Option P
  | _, .p p => some p
  | 0, .ref _ => none
  | k + 1, .ref n => if n < n0 then none else match S[n]? with
    | some (.lst ds) => (mapO (fzD S n0 k) ds).map .lst
    | some (.dic t ks ds) => (mapO (fzD S n0 k) ds).map (.dic t ks)
    | some (.ins c ks ds) => (mapO (fzD S n0 k) ds).map (.ins c ks)
    | _ => none
def clDb (n : Nat) : D → Bool
  | .p _ => true
  | .ref m => decide (m < n)
def clCb (n : Nat) : Cell → Bool
  | .lst ds => ds.all (clDb n)
  | .dic _ _ ds => ds.all (clDb n)
  | .ins _ _ ds => ds.all (clDb n)
  | .dead => true
  | .tab _ => true
def fzR (n0 : Nat) (S' : Store) (d : D) : Rs D := match d with
  | .p p => .ok (.p p) (S'.take n0)
  | .ref m => if m < n0 then .ok (.ref m) (S'.take n0) else match fzD S' n0 8 (.ref m) with
    | some p => .ok (.p p) (S'.take n0)
    | none => .no
def froz (n0 : Nat) : Rs D → Rs D
  | .ok d S' => if (S'.take n0).all (clCb n0) = true then fzR n0 S' d else .no
  | .exc x S' => if (S'.take n0).all (clCb n0) = true then .exc x (S'.take n0) else .no
  | .no => .no
def runZ (n : Nat) (b : MS) : Fn := fun ds S => froz S.length (runB n b ds S)
section
variable {K : Fr} {G F H F' H' : Hp} {R R' : List Addr} {S S' : Store} {pc : Nat → Hp}
def clD (n : Nat) : D → Prop
  | .p _ => True
  | .ref m => m < n
def clC (n : Nat) : Cell → Prop
  | .lst ds => ∀ d ∈ ds, clD n d
  | .dic _ _ ds => ∀ d ∈ ds, clD n d
  | .ins _ _ ds => ∀ d ∈ ds, clD n d
  | .dead => True
  | .tab _ => True
theorem RelD.cl {v : V} {d : D} (h : RelD K F R v d) : clD R.length d := by
  cases d with
  | p _ => trivial
  | ref n => obtain ⟨a, e, _⟩ := h; exact (List.getElem?_eq_some_iff.mp e).1
theorem RelAll.cl : ∀ {vs : List V} {ds : List D}, RelAll K F R vs ds → ∀ d ∈ ds, clD R.length d
  | _, _, .nil, _, h => by cases h
  | _, _, .cons h t, d, hd => by
    rcases List.mem_cons.mp hd with rfl | hd
    · exact h.cl
    · exact RelAll.cl t d hd
theorem CellOk.cl {a : Addr} {q : Hp} {c : Cell} (h : CellOk K F R a q c) : clC R.length c := by
  cases h with
  | lst h => exact h.cl
  | dicK _ h => exact h.cl
  | dicN _ _ _ h => exact h.cl
  | ins _ _ h => exact h.cl
  | dead => trivial
  | tab _ _ _ => trivial
theorem RelD.cut {v : V} {d : D} {n : Nat} (h : RelD K F R' v d) (hc : clD n d) (e : Same F F') : RelD K F' (R'.take n) v d := by
  cases d with
  | p _ => exact Rp.mono e _ _ h
  | ref m =>
    obtain ⟨a, e, rfl⟩ := h
    have hc : m < n := hc
    exact ⟨a, by rw [List.getElem?_take, if_pos hc]; exact e, rfl⟩
theorem RelAll.cut {n : Nat} (e : Same F F') : ∀ {vs : List V} {ds : List D}, RelAll K F R' vs ds → (∀ d ∈ ds, clD n d) → RelAll K F' (R'.take n) vs ds
  | _, _, .nil, _ => .nil
  | _, _, .cons h t, hd => .cons (h.cut (hd _ (List.mem_cons_self ..)) e) (RelAll.cut e t fun d h => hd d (List.mem_cons_of_mem _ h))
theorem CellOk.cut {n : Nat} {a : Addr} {q : Hp} {c : Cell} (e : Same F F') (h : CellOk K F R' a q c) (hc : clC n c) : CellOk K F' (R'.take n) a q c := by
  cases h with
  | lst h => exact .lst (h.cut e hc)
  | dicK hk h => exact .dicK hk (h.cut e hc)
  | dicN h1 h2 h3 h => exact .dicN (RpAll.mono e _ _ h1) h2 h3 (h.cut e hc)
  | ins hd hk h => exact .ins hd hk (h.cut e hc)
  | dead => exact .dead
  | tab h0 h1 h2 => exact .tab h0 h1 fun pos cv z => let ⟨c, e1, e2⟩ := h2 pos cv z; ⟨c, e1, e _ _ e2⟩
open Classical in
noncomputable def fzF (F : Hp) (pc : Nat → Hp) (n0 : Nat) (H : Hp) : Hp := fun a => if ∃ n, n0 ≤ n ∧ pc n a ≠ none then H a else F a
theorem fzF_in {n0 n : Nat} {a : Addr} {o : HO} (hn : n0 ≤ n) (e : pc n a = some o) : fzF F pc n0 H a = H a := by
  unfold fzF
  rw [if_pos ⟨n, hn, by rw [e]; exact fun z => nomatch z⟩]
theorem fzF_out {n0 : Nat} {a : Addr} (h : ¬ ∃ n, n0 ≤ n ∧ pc n a ≠ none) : fzF F pc n0 H a = F a := by
  unfold fzF
  rw [if_neg h]
theorem fzF_same (h : Rpc K G F R S H pc) (n0 : Nat) : Same F (fzF F pc n0 H) := fun a o e => by
  rw [fzF_out]
  · exact e
  · rintro ⟨n, _, hn⟩
    cases q : pc n a with
    | none => exact hn q
    | some u => rw [(h.out n a u q).1] at e; cases e
theorem mapO_rel {f : D → Option P} {F' : Hp} (hf : ∀ v d p, RelD K F R v d → f d = some p → Rp K F' v p) : ∀ {vs : List V} {ds : List D} {ps : List P}, RelAll K F R vs ds → mapO f ds = some ps → RpAll K F' vs ps
  | _, _, _, .nil, e => by cases e; exact .nil
  | _, _, ps, .cons (b := d) (l₂ := ds) h t, e => by
    cases e1 : f d with
    | none => simp only [mapO, e1] at e; cases e
    | some p =>
      cases e2 : mapO f ds with
      | none => simp only [mapO, e1, e2] at e; cases e
      | some qs =>
        simp only [mapO, e1, e2] at e; cases e
        exact .cons (hf _ _ _ h e1) (mapO_rel hf t e2)
theorem fzD_rel (h : Rpc K G F R S H pc) (n0 : Nat) : ∀ (k : Nat) (v : V) (d : D) (p : P), RelD K F R v d → fzD S n0 k d = some p → Rp K (fzF F pc n0 H) v p := by
  intro k
  induction k with
  | zero =>
    intro v d p hv e
    cases d with
    | p q => cases e; exact Rp.mono (fzF_same h n0) _ _ hv
    | ref n => cases e
  | succ k ih =>
    intro v d p hv e
    cases d with
    | p q => cases e; exact Rp.mono (fzF_same h n0) _ _ hv
    | ref n =>
      simp only [fzD] at e
      split at e
      · cases e
      · rename_i hn
        have hn : n0 ≤ n := by omega
        cases hc : S[n]? with
        | none => rw [hc] at e; cases e
        | some c =>
          rw [hc] at e
          obtain ⟨a, ea, ok⟩ := h.ok n c hc
          obtain ⟨a', ea', rfl⟩ := hv
          rw [ea] at ea'; cases ea'
          generalize hq : pc n = q at ok
          have at_ : ∀ b o, q b = some o → fzF F pc n0 H b = some o := fun b o z => by
            rw [fzF_in hn (show pc n b = some o by rw [hq]; exact z)]
            exact (h.out n b o (by rw [hq]; exact z)).2
          cases ok with
          | @lst vs ds hr =>
            cases hm : mapO (fzD S n0 k) ds with
            | none => simp only [hm] at e; cases e
            | some ps =>
              simp only [hm] at e; cases e
              exact .lst (at_ _ _ one_same) (mapO_rel ih hr hm)
          | @dicK kvs ks ds hk hr =>
            cases hm : mapO (fzD S n0 k) ds with
            | none => simp only [hm] at e; cases e
            | some ps =>
              simp only [hm] at e; cases e
              exact .dicK (at_ _ _ one_same) hk (mapO_rel ih hr hm)
          | @dicN kvs ks ds h1 h2 h3 hr =>
            cases hm : mapO (fzD S n0 k) ds with
            | none => simp only [hm] at e; cases e
            | some ps =>
              simp only [hm] at e; cases e
              exact .dicN (at_ _ _ one_same) (RpAll.mono (fzF_same h n0) _ _ h1) h2 h3 (mapO_rel ih hr hm)
          | @ins dx c fs ks ds hd hk hr =>
            cases hm : mapO (fzD S n0 k) ds with
            | none => simp only [hm] at e; cases e
            | some ps =>
              simp only [hm] at e; cases e
              exact .ins (at_ _ _ two_fst) (at_ _ _ (two_snd hd)) hk (mapO_rel ih hr hm)
          | dead => cases e
          | tab _ _ _ => cases e
theorem clDb_ok {n : Nat} {d : D} (h : clDb n d = true) : clD n d := by
  cases d with
  | p _ => trivial
  | ref m =>
    have h : decide (m < n) = true := h
    exact (of_decide_eq_true h : m < n)
theorem clCb_ok {n : Nat} {c : Cell} (h : clCb n c = true) : clC n c := by
  cases c with
  | lst ds => exact fun d hd => clDb_ok (List.all_eq_true.mp h d hd)
  | dic _ _ ds => exact fun d hd => clDb_ok (List.all_eq_true.mp h d hd)
  | ins _ _ ds => exact fun d hd => clDb_ok (List.all_eq_true.mp h d hd)
  | dead => trivial
  | tab _ => trivial
theorem rep_cut {F0 H0 : Hp} {S0 : Store} (h0 : Rep K G F0 R S0 H0) (h : Rpc K G F R' S' H pc) (hR : R <+: R') (hS : (S'.take S0.length).all (clCb S0.length) = true) : R'.take S0.length = R ∧ Rep K G (fzF F pc S0.length H) R (S'.take S0.length) H := by
  have hl := h0.len
  have eR : R'.take S0.length = R := by
    obtain ⟨t, rfl⟩ := hR
    rw [← hl, List.take_left]
  have hlen : S0.length ≤ S'.length := by
    obtain ⟨t, rfl⟩ := hR
    rw [← h.len, List.length_append]; omega
  have hlt : (S'.take S0.length).length = S0.length := by rw [List.length_take]; omega
  refine ⟨eR, fun n => if n < S0.length then pc n else nil, fun a o e => ?_, by rw [hlt]; exact hl, fun n c e => ?_, fun n a o e => ?_, fun n m a e1 e2 => ?_, fun n hn => ?_, fun a o e => ?_⟩
  · by_cases hx : ∃ n, S0.length ≤ n ∧ pc n a ≠ none
    · obtain ⟨n, hn, hp⟩ := hx
      cases q : pc n a with
      | none => exact absurd q hp
      | some u => rw [fzF_in hn q] at e; exact e
    · rw [fzF_out hx] at e; exact h.sub _ _ e
  · have hn : n < S0.length := by
      have := (List.getElem?_eq_some_iff.mp e).1
      omega
    have hcl := clCb_ok (List.all_eq_true.mp hS c (List.mem_of_getElem? e))
    have e' : S'[n]? = some c := by
      have := e
      rw [List.getElem?_take, if_pos hn] at this
      exact this
    obtain ⟨a, e1, e2⟩ := h.ok n c e'
    refine ⟨a, ?_, ?_⟩
    · rw [← eR, List.getElem?_take, if_pos hn]; exact e1
    · show CellOk K (fzF F pc S0.length H) R a (if n < S0.length then pc n else nil) c
      rw [if_pos hn, ← eR]
      exact e2.cut (fzF_same h _) hcl
  · have e : (if n < S0.length then pc n else nil) a = some o := e
    by_cases hn : n < S0.length
    · rw [if_pos hn] at e
      obtain ⟨z1, z2⟩ := h.out n a o e
      refine ⟨?_, z2⟩
      rw [fzF_out]
      · exact z1
      · rintro ⟨m, hm, hp⟩
        have := h.sep n m a (by rw [e]; exact fun z => nomatch z) hp
        omega
    · rw [if_neg hn] at e; cases e
  · have key : ∀ j, (if j < S0.length then pc j else nil) a ≠ none → pc j a ≠ none := fun j hj => by
      by_cases hn : j < S0.length
      · rw [if_pos hn] at hj; exact hj
      · rw [if_neg hn] at hj; exact absurd rfl hj
    exact h.sep n m a (key n e1) (key m e2)
  · show (if n < S0.length then pc n else nil) = nil
    rw [if_neg (by omega)]
  · obtain ⟨z1, z2, z3⟩ := h.grd a o e
    refine ⟨z1, ?_, fun n => ?_⟩
    · rw [fzF_out]
      · exact z2
      · rintro ⟨m, _, hp⟩
        exact hp (z3 m)
    · show (if n < S0.length then pc n else nil) a = none
      split
      · exact z3 n
      · rfl
theorem froz_post {F0 H0 : Hp} {S0 : Store} {Q : VK} {E : XK} {r : Rs D} (h0 : Rep K G F0 R S0 H0) (post : PostF K G F0 R Q E (froz S0.length r)) : PostF K G F0 R Q E r := by
  cases r with
  | ok d S' =>
    intro v F' R' H' hv rep s pr
    simp only [froz] at post
    by_cases hS : (S'.take S0.length).all (clCb S0.length) = true
    · rw [if_pos hS] at post
      obtain ⟨pc, rep⟩ := rep
      obtain ⟨eR, rep'⟩ := rep_cut h0 rep pr hS
      have sm := s.trans (fzF_same rep S0.length)
      cases d with
      | p p => exact post v _ R H' (Rp.mono (fzF_same rep _) _ _ hv) rep' sm pre_refl
      | ref m =>
        simp only [fzR] at post
        by_cases hm : m < S0.length
        · rw [if_pos hm] at post
          refine post v _ R H' ?_ rep' sm pre_refl
          rw [← eR]
          exact RelD.cut hv hm (fzF_same rep _)
        · rw [if_neg hm] at post
          cases hf : fzD S' S0.length 8 (.ref m) with
          | none => simp only [hf] at post; exact post.elim
          | some p =>
            simp only [hf] at post
            exact post v _ R H' (fzD_rel rep _ 8 v _ p hv hf) rep' sm pre_refl
    · rw [if_neg hS] at post; exact post.elim
  | exc x S' =>
    intro cls d F' R' H' hx rep s pr
    simp only [froz] at post
    by_cases hS : (S'.take S0.length).all (clCb S0.length) = true
    · rw [if_pos hS] at post
      obtain ⟨pc, rep⟩ := rep
      obtain ⟨_, rep'⟩ := rep_cut h0 rep pr hS
      have sm := fzF_same rep S0.length
      refine post cls d _ R H' ?_ rep' (s.trans sm) pre_refl
      obtain ⟨h1, h2⟩ := hx
      refine ⟨h1, ?_⟩
      rcases h2 with h2 | ⟨a, fs, e1, e2, e3, e4⟩
      · exact .inl h2
      · exact .inr ⟨a, fs, e1, sm _ _ e2, e3, RpAll.mono sm _ _ e4⟩
    · rw [if_neg hS] at post; exact post.elim
  | no => exact post.elim
end
theorem ok_fz {Pg : Program} {w : World} {K : PySem.W.Frag} {mg : Str → Option Value} {base : Heap} {k : Nat} {x : Str} {ps : List Str} {n : Nat} {b : MS} (h : OkF Pg w K mg base k x ps (runB n b)) : OkF Pg w K mg base k x ps (runZ n b) :=
  h.imp fun G F R S ds H Q E rep post => froz_post rep post
end Z

namespace Z
open PySem PySem.Spec PyProof.Rows L2
section
variable {K : Fr}
theorem vw1 {F H : Hp} {vs : List V} {p : P} (h : VwAll K F H vs [p]) : ∃ v, vs = [v] ∧ Vw K F H v p := by
  cases h with
  | cons h t => cases t; exact ⟨_, rfl, h⟩
theorem vw2 {F H : Hp} {vs : List V} {p q : P} (h : VwAll K F H vs [p, q]) : ∃ v w, vs = [v, w] ∧ Vw K F H v p ∧ Vw K F H w q := by
  cases h with
  | cons h t =>
    cases t with
    | cons h2 t => cases t; exact ⟨_, _, rfl, h, h2⟩
/-! len -/
def lenP : List P → Option P
  | [.str z] => if z.length ≤ sizeLine then some (.int (z.length : Int)) else none
  | [.lst ps] => some (.int (ps.length : Int))
  | [.tup ps] => some (.int (ps.length : Int))
  | [.scr ns] => some (.int (ns.length : Int))
  | _ => none
theorem cv_len : CallV K (fun xs H Q => ∃ x n, xs = [x] ∧ LenV K.K x H n ∧ Q (.int n) H) lenP := fun ps z vs F H Q e hx s k => by
  · unfold lenP at e
    split at e
    · obtain ⟨v, rfl, h⟩ := vw1 hx
      obtain ⟨hc, rfl⟩ := if_some e
      cases h.str
      exact ⟨_, _, rfl, ⟨hc, rfl⟩, k _ F H (.int _) (Grow.refl s)⟩
    · obtain ⟨v, rfl, h⟩ := vw1 hx
      cases e
      obtain ⟨a, ws, rfl, h1, h2⟩ := h.lstE s
      exact ⟨_, _, rfl, .inl ⟨_, .inl (.inl h1), rfl⟩, by rw [h2.length]; exact k _ F H (.int _) (Grow.refl s)⟩
    · obtain ⟨v, rfl, h⟩ := vw1 hx
      cases e
      obtain ⟨a, ws, rfl, h1, h2⟩ := h.tupE
      exact ⟨_, _, rfl, .inr ⟨_, same_sqT s h1, rfl⟩, by rw [h2.length]; exact k _ F H (.int _) (Grow.refl s)⟩
    · rename_i ns
      obtain ⟨v, rfl, h⟩ := vw1 hx
      cases e
      obtain ⟨a, rfl, h1⟩ := h.scrE s
      exact ⟨_, ns.length, rfl, .inl ⟨_, h1, by rw [List.length_map]⟩, k _ F H (.int _) (Grow.refl s)⟩
    · cases e
/-! isinstance -/
def tyP : P → String
  | .non => "NoneType"
  | .bl _ => "bool"
  | .int _ => "int"
  | .str _ => "str"
  | .lst _ => "list"
  | .tup _ => "tuple"
  | .dic _ _ _ => "dict"
  | .ins _ _ _ => "?"
  | .glo _ => "?"
  | .ty _ => "?"
  | .scr _ => "list"
  | .exv _ _ _ => "?"
def plainP : P → Bool
  | .dic true _ _ => false
  | .ins _ _ _ => false
  | .glo _ => false
  | .ty _ => false
  | .scr _ => false
  | .exv _ _ _ => false
  | _ => true
theorem rp_tyx {H : Hp} {v : V} {p : P} (h : Rp K H v p) (hp : plainP p = true) : TyX K.K H v (.type (tyP p)) := by
  cases h with
  | non => exact .base .non
  | bl b => exact .base (.bl b)
  | int i => exact .base (.int i)
  | str y => exact .base (.str y)
  | lst h1 _ => exact .base (.lst h1)
  | tup h1 _ => exact .base (.tup h1)
  | tupW h1 _ _ =>
    rcases h1 with (h1 | ⟨o, h1⟩) | ⟨o, its, n, h1, h2, _⟩
    · exact .base (.tup h1)
    · exact .fTuple h1
    · exact .kTuple h1 h2
  | dicK h1 _ _ => exact .base (.dK h1)
  | dicN _ _ _ _ _ => cases hp
  | ins _ _ _ _ => cases hp
  | glo _ => cases hp
  | ty _ => cases hp
  | scr _ => cases hp
  | exv _ _ _ _ => cases hp
  | exv0 _ => cases hp
def isiP : List P → Option P
  | [p, .ty n] => if plainP p = true then (kitB (tyP p) n).map .bl else none
  | _ => none
theorem cv_isi : CallV K (rIsi K.K) isiP := fun ps z vs F H Q e hx s k => by
  unfold isiP at e
  split at e
  · rename_i p n
    obtain ⟨v, w, rfl, h1, h2⟩ := vw2 hx
    split at e
    · rename_i hp
      cases hk : kitB (tyP p) n with
      | none => rw [hk] at e; cases e
      | some b =>
        rw [hk] at e; cases e
        have hw : w = .ty n := by cases h2 with | p h => cases h; rfl
        subst hw
        exact ⟨v, _, _, _, b, rfl, .ty n, rp_tyx (h1.rd s) hp, kit_ty hk, k _ F H (.bl b) (Grow.refl s)⟩
    · cases e
  · cases e
/-! abs, int, str, max, min -/
def absP : List P → Option P
  | [.int m] => some (.int (if m < 0 then -m else m))
  | _ => none
theorem cv_abs : CallV K (fun xs H Q => ∃ i, xs = [.int i] ∧ Q (.int (if i < 0 then -i else i)) H) absP := fun ps z vs F H Q e hx s k => by
  unfold absP at e
  split at e
  · obtain ⟨v, rfl, h⟩ := vw1 hx
    cases e
    cases h.int
    exact ⟨_, rfl, k _ F H (.int _) (Grow.refl s)⟩
  · cases e
def intP : List P → Option P
  | [.int m] => some (.int m)
  | [.bl b] => some (.int (if b then 1 else 0))
  | [.str z] => if z.length ≤ 640 then (PySem.intText? z).map .int else none
  | _ => none
def rIntZ : List V → Hp → VK → Prop := fun xs H Q => (fun xs H Q => (∃ i, xs = [.int i] ∧ Q (.int i) H) ∨ ∃ k, xs = [.bl k] ∧ Q (.int (if k then 1 else 0)) H) xs H Q ∨ (fun xs H Q => ∃ a n, xs = [.str a] ∧ PySem.intText? a = some n ∧ a.length ≤ 640 ∧ Q (.int n) H) xs H Q
theorem cr_int {X : Cx} : CallR X (.type "int") rIntZ := CallR.or call_int1 call_int_str
theorem cv_int : CallV K rIntZ intP := fun ps z vs F H Q e hx s k => by
  unfold intP at e
  split at e
  · obtain ⟨v, rfl, h⟩ := vw1 hx
    cases e
    cases h.int
    exact .inl (.inl ⟨_, rfl, k _ F H (.int _) (Grow.refl s)⟩)
  · obtain ⟨v, rfl, h⟩ := vw1 hx
    cases e
    cases h.bl
    exact .inl (.inr ⟨_, rfl, k _ F H (.int _) (Grow.refl s)⟩)
  · rename_i y
    obtain ⟨v, rfl, h⟩ := vw1 hx
    cases h.str
    split at e
    · rename_i hl
      cases hi : PySem.intText? y with
      | none => rw [hi] at e; cases e
      | some n =>
        rw [hi] at e; cases e
        exact .inr ⟨y, n, rfl, hi, hl, k _ F H (.int _) (Grow.refl s)⟩
    · cases e
  · cases e
def strP : List P → Option P
  | [.int m] => if m.natAbs.log2 < 1920 then some (.str (toString m)) else none
  | _ => none
theorem cv_str : CallV K (fun xs H Q => ∃ i, xs = [.int i] ∧ i.natAbs.log2 < 1920 ∧ Q (.str (toString i)) H) strP := fun ps z vs F H Q e hx s k => by
  unfold strP at e
  split at e
  · obtain ⟨v, rfl, h⟩ := vw1 hx
    obtain ⟨hc, rfl⟩ := if_some e
    cases h.int
    exact ⟨_, rfl, hc, k _ F H (.str _) (Grow.refl s)⟩
  · cases e
def intsOf : List P → Option (List Int)
  | [] => some []
  | .int n :: ps => (intsOf ps).map (n :: ·)
  | _ => none
theorem intsOf_rp {F : Hp} : ∀ {ps : List P} {ns : List Int} {vs : List V}, intsOf ps = some ns → RpAll K F vs ps → vs = ns.map V.int
  | [], _, _, e, h => by cases e; cases h; rfl
  | p :: ps, ns, _, e, h => by
    cases h with
    | cons h1 h2 =>
      cases p with
      | int n =>
        cases hq : intsOf ps with
        | none => simp only [intsOf, hq] at e; cases e
        | some ms =>
          simp only [intsOf, hq] at e; cases e
          cases h1
          rw [intsOf_rp hq h2]; rfl
      | _ => cases e
def boolsOf : List P → Option (List Bool)
  | [] => some []
  | .bl n :: ps => (boolsOf ps).map (n :: ·)
  | _ => none
theorem boolsOf_rp {F : Hp} : ∀ {ps : List P} {ns : List Bool} {vs : List V}, boolsOf ps = some ns → RpAll K F vs ps → vs = ns.map V.bl
  | [], _, _, e, h => by cases e; cases h; rfl
  | p :: ps, ns, _, e, h => by
    cases h with
    | cons h1 h2 =>
      cases p with
      | bl n =>
        cases hq : boolsOf ps with
        | none => simp only [boolsOf, hq] at e; cases e
        | some ms =>
          simp only [boolsOf, hq] at e; cases e
          cases h1
          rw [boolsOf_rp hq h2]; rfl
      | _ => cases e
def maxL : List Int → Option Int
  | [] => none
  | n :: ns => some (ns.foldl max n)
def minL : List Int → Option Int
  | [] => none
  | n :: ns => some (ns.foldl min n)
theorem foldl_max_spec : ∀ (ns : List Int) (n : Int), (ns.foldl max n = n ∨ ns.foldl max n ∈ ns) ∧ n ≤ ns.foldl max n ∧ ∀ y ∈ ns, y ≤ ns.foldl max n
  | [], n => ⟨.inl rfl, Int.le_refl _, fun _ h => by cases h⟩
  | m :: ns, n => by
    obtain ⟨h1, h2, h3⟩ := foldl_max_spec ns (max n m)
    rw [List.foldl_cons]
    refine ⟨?_, by omega, fun y hy => ?_⟩
    · rcases h1 with h1 | h1
      · rw [h1]
        by_cases h : n ≤ m
        · right; rw [show max n m = m by omega]; exact List.mem_cons_self ..
        · left; omega
      · right; exact List.mem_cons_of_mem _ h1
    · rcases List.mem_cons.mp hy with rfl | hy
      · omega
      · exact h3 y hy
theorem foldl_min_spec : ∀ (ns : List Int) (n : Int), (ns.foldl min n = n ∨ ns.foldl min n ∈ ns) ∧ ns.foldl min n ≤ n ∧ ∀ y ∈ ns, ns.foldl min n ≤ y
  | [], n => ⟨.inl rfl, Int.le_refl _, fun _ h => by cases h⟩
  | m :: ns, n => by
    obtain ⟨h1, h2, h3⟩ := foldl_min_spec ns (min n m)
    rw [List.foldl_cons]
    refine ⟨?_, by omega, fun y hy => ?_⟩
    · rcases h1 with h1 | h1
      · rw [h1]
        by_cases h : m ≤ n
        · right; rw [show min n m = m by omega]; exact List.mem_cons_self ..
        · left; omega
      · right; exact List.mem_cons_of_mem _ h1
    · rcases List.mem_cons.mp hy with rfl | hy
      · omega
      · exact h3 y hy
def maxP : List P → Option P
  | [.int m, .int n] => some (.int (if n > m then n else m))
  | [.lst ps] => match intsOf ps with
    | some ns => (maxL ns).map .int
    | none => none
  | _ => none
def minP : List P → Option P
  | [.int m, .int n] => some (.int (if n < m then n else m))
  | [.lst ps] => match intsOf ps with
    | some ns => (minL ns).map .int
    | none => none
  | _ => none
def rMaxZ (K : PySem.W.Frag) : List V → Hp → VK → Prop := fun xs H Q => (fun xs H Q => ∃ i j, xs = [.int i, .int j] ∧ Q (.int (if j > i then j else i)) H) xs H Q ∨ rMax K xs H Q
def rMinZ (K : PySem.W.Frag) : List V → Hp → VK → Prop := fun xs H Q => (fun xs H Q => ∃ i j, xs = [.int i, .int j] ∧ Q (.int (if j < i then j else i)) H) xs H Q ∨ rMin K xs H Q
theorem cr_maxZ {X : Cx} (hc : X.calm = true) : CallR X (.builtin "max") (rMaxZ X.K) := CallR.or (call_max2 hc) (cr_max hc)
theorem cr_minZ {X : Cx} (hc : X.calm = true) : CallR X (.builtin "min") (rMinZ X.K) := CallR.or (call_min2 hc) (cr_min hc)
theorem cv_max : CallV K (rMaxZ K.K) maxP := fun ps z vs F H Q e hx s k => by
  unfold maxP at e
  split at e
  · obtain ⟨v, w, rfl, h1, h2⟩ := vw2 hx
    cases e; cases h1.int; cases h2.int
    exact .inl ⟨_, _, rfl, k _ F H (.int _) (Grow.refl s)⟩
  · rename_i ps
    obtain ⟨v, rfl, h⟩ := vw1 hx
    cases hi : intsOf ps with
    | none => rw [hi] at e; cases e
    | some ns =>
      rw [hi] at e
      obtain ⟨a, ws, rfl, h1, h2⟩ := h.lstE s
      have := intsOf_rp hi h2
      subst this
      cases ns with
      | nil => cases e
      | cons n ns =>
        cases e
        obtain ⟨q1, q2, q3⟩ := foldl_max_spec ns n
        refine .inr ⟨a, n :: ns, rfl, .inl (.inl h1), by simp, fun m hm hall => ?_⟩
        have e1 : m = ns.foldl max n := by
          have a1 : ns.foldl max n ≤ m := by
            rcases q1 with q1 | q1
            · rw [q1]; exact hall n (List.mem_cons_self ..)
            · exact hall _ (List.mem_cons_of_mem _ q1)
          rcases List.mem_cons.mp hm with rfl | hm
          · omega
          · have := q3 m hm; omega
        rw [e1]
        exact k _ F H (.int _) (Grow.refl s)
  · cases e
theorem cv_min : CallV K (rMinZ K.K) minP := fun ps z vs F H Q e hx s k => by
  unfold minP at e
  split at e
  · obtain ⟨v, w, rfl, h1, h2⟩ := vw2 hx
    cases e; cases h1.int; cases h2.int
    exact .inl ⟨_, _, rfl, k _ F H (.int _) (Grow.refl s)⟩
  · rename_i ps
    obtain ⟨v, rfl, h⟩ := vw1 hx
    cases hi : intsOf ps with
    | none => rw [hi] at e; cases e
    | some ns =>
      rw [hi] at e
      obtain ⟨a, ws, rfl, h1, h2⟩ := h.lstE s
      have := intsOf_rp hi h2
      subst this
      cases ns with
      | nil => cases e
      | cons n ns =>
        cases e
        obtain ⟨q1, q2, q3⟩ := foldl_min_spec ns n
        refine .inr ⟨a, n :: ns, rfl, .inl (.inl h1), by simp, fun m hm hall => ?_⟩
        have e1 : m = ns.foldl min n := by
          have a1 : m ≤ ns.foldl min n := by
            rcases q1 with q1 | q1
            · rw [q1]; exact hall n (List.mem_cons_self ..)
            · exact hall _ (List.mem_cons_of_mem _ q1)
          rcases List.mem_cons.mp hm with rfl | hm
          · omega
          · have := q3 m hm; omega
        rw [e1]
        exact k _ F H (.int _) (Grow.refl s)
  · cases e
/-! all, any, sum, tuple, list -/
def allP : List P → Option P
  | [.lst ps] => (boolsOf ps).map fun bs => .bl (bs.all id)
  | _ => none
def anyP : List P → Option P
  | [.lst ps] => (boolsOf ps).map fun bs => .bl (bs.any id)
  | _ => none
def sumP : List P → Option P
  | [.lst ps] => (intsOf ps).map fun ns => .int ns.sum
  | _ => none
theorem cv_all : CallV K (rAll K.K) allP := fun ps z vs F H Q e hx s k => by
  unfold allP at e
  split at e
  · rename_i ps
    obtain ⟨v, rfl, h⟩ := vw1 hx
    cases hi : boolsOf ps with
    | none => rw [hi] at e; cases e
    | some ns =>
      rw [hi] at e; cases e
      obtain ⟨a, ws, rfl, h1, h2⟩ := h.lstE s
      have := boolsOf_rp hi h2
      subst this
      exact ⟨a, ns, rfl, .inl (.inl h1), k _ F H (.bl _) (Grow.refl s)⟩
  · cases e
theorem cv_any : CallV K (rAny K.K) anyP := fun ps z vs F H Q e hx s k => by
  unfold anyP at e
  split at e
  · rename_i ps
    obtain ⟨v, rfl, h⟩ := vw1 hx
    cases hi : boolsOf ps with
    | none => rw [hi] at e; cases e
    | some ns =>
      rw [hi] at e; cases e
      obtain ⟨a, ws, rfl, h1, h2⟩ := h.lstE s
      have := boolsOf_rp hi h2
      subst this
      exact ⟨a, ns, rfl, .inl (.inl h1), k _ F H (.bl _) (Grow.refl s)⟩
  · cases e
theorem cv_sum : CallV K (rSum K.K) sumP := fun ps z vs F H Q e hx s k => by
  unfold sumP at e
  split at e
  · rename_i ps
    obtain ⟨v, rfl, h⟩ := vw1 hx
    cases hi : intsOf ps with
    | none => rw [hi] at e; cases e
    | some ns =>
      rw [hi] at e; cases e
      obtain ⟨a, ws, rfl, h1, h2⟩ := h.lstE s
      have := intsOf_rp hi h2
      subst this
      exact ⟨a, ns, rfl, .inl (.inl h1), k _ F H (.int _) (Grow.refl s)⟩
  · cases e
def tupleP : List P → Option P
  | [.lst ps] => some (.tup ps)
  | [.tup ps] => some (.tup ps)
  | _ => none
theorem cv_tuple : CallV K (fun xs H Q => ∃ p ys, xs = [.ref p] ∧ ((SqL K.K H p ys ∧ ∀ l, H l = none → Q (.ref l) (upd H l (.tup ys))) ∨ (SqT K.K H p ys ∧ Q (.ref p) H))) tupleP := fun ps z vs F H Q e hx s k => by
  unfold tupleP at e
  split at e
  · obtain ⟨v, rfl, h⟩ := vw1 hx
    cases e
    obtain ⟨a, ws, rfl, h1, h2⟩ := h.lstE s
    refine ⟨a, ws, rfl, .inl ⟨.inl (.inl h1), fun l hl => ?_⟩⟩
    have g := Grow.new (o := .tup ws) s hl
    exact k _ _ _ (.tup upd_same (RpAll.mono g.sF _ _ h2)) g
  · obtain ⟨v, rfl, h⟩ := vw1 hx
    cases e
    have hp := h.tupP
    obtain ⟨a, ws, rfl, h1, h2⟩ := h.tupE
    exact ⟨a, ws, rfl, .inr ⟨same_sqT s h1, k _ F H hp (Grow.refl s)⟩⟩
  · cases e
def listP : List P → Option P
  | [.lst ps] => some (.lst ps)
  | [.tup ps] => some (.lst ps)
  | [.scr ns] => some (.lst (ns.map .int))
  | _ => none
theorem cv_list : CallV K (fun xs H Q => ∃ p ys, xs = [.ref p] ∧ (SqL K.K H p ys ∨ SqT K.K H p ys) ∧ ∀ l, H l = none → Q (.ref l) (upd H l (.lst ys))) listP := fun ps z vs F H Q e hx s k => by
  unfold listP at e
  split at e
  · obtain ⟨v, rfl, h⟩ := vw1 hx
    cases e
    obtain ⟨a, ws, rfl, h1, h2⟩ := h.lstE s
    refine ⟨a, ws, rfl, .inl (.inl (.inl h1)), fun l hl => ?_⟩
    have g := Grow.new (o := .lst ws) s hl
    exact k _ _ _ (.lst upd_same (RpAll.mono g.sF _ _ h2)) g
  · obtain ⟨v, rfl, h⟩ := vw1 hx
    cases e
    obtain ⟨a, ws, rfl, h1, h2⟩ := h.tupE
    refine ⟨a, ws, rfl, .inr (same_sqT s h1), fun l hl => ?_⟩
    have g := Grow.new (o := .lst ws) s hl
    exact k _ _ _ (.lst upd_same (RpAll.mono g.sF _ _ h2)) g
  · obtain ⟨v, rfl, h⟩ := vw1 hx
    cases e
    obtain ⟨a, rfl, h1⟩ := h.scrE s
    refine ⟨a, _, rfl, .inl h1, fun l hl => ?_⟩
    exact k _ _ _ (.lst upd_same (rp_ints _)) (Grow.new s hl)
  · cases e
end
section
variable {C : Kx} {a b e : Expr} {es : List Expr} {pos p : Pos} {ma : MA}
abbrev Se (C : Kx) (e : Expr) (es : List Expr) : Prop := starEach (e :: es) C.X.env = (false, eval e C.X.env) :: starEach es C.X.env
abbrev Pl (C : Kx) (es : List Expr) (pos : Pos) : Prop := (backTo pos (starEach es C.X.env)).any (·.1) = false
theorem ej_len (hm : C.X.mg "len" = none) (h : Aj C ma (e :: es)) (hg : Gl C.X "len" := by rfl) (he : Se C e es := by exact se_of rfl) (hpl : Pl C es pos := by exact pl_of rfl) : Ej C (eF lenP ma) (.Call (.Name "len" p) (e :: es) [] pos) := ej_callB call_len cv_len hm boot_len h hg (he := he) (hpl := hpl)
theorem ej_isi (hm : C.X.mg "isinstance" = none) (h : Aj C ma (e :: es)) (hg : Gl C.X "isinstance" := by rfl) (he : Se C e es := by exact se_of rfl) (hpl : Pl C es pos := by exact pl_of rfl) : Ej C (eF isiP ma) (.Call (.Name "isinstance" p) (e :: es) [] pos) := ej_callB call_isi cv_isi hm (by decide +kernel) h hg (he := he) (hpl := hpl)
theorem ej_abs (hm : C.X.mg "abs" = none) (h : Aj C ma (e :: es)) (hg : Gl C.X "abs" := by rfl) (he : Se C e es := by exact se_of rfl) (hpl : Pl C es pos := by exact pl_of rfl) : Ej C (eF absP ma) (.Call (.Name "abs" p) (e :: es) [] pos) := ej_callB call_abs cv_abs hm (by decide +kernel) h hg (he := he) (hpl := hpl)
theorem ej_max (hc : C.X.calm = true) (hm : C.X.mg "max" = none) (h : Aj C ma (e :: es)) (hg : Gl C.X "max" := by rfl) (he : Se C e es := by exact se_of rfl) (hpl : Pl C es pos := by exact pl_of rfl) : Ej C (eF maxP ma) (.Call (.Name "max" p) (e :: es) [] pos) := ej_callB (cr_maxZ hc) cv_max hm (by decide +kernel) h hg (he := he) (hpl := hpl)
theorem ej_min (hc : C.X.calm = true) (hm : C.X.mg "min" = none) (h : Aj C ma (e :: es)) (hg : Gl C.X "min" := by rfl) (he : Se C e es := by exact se_of rfl) (hpl : Pl C es pos := by exact pl_of rfl) : Ej C (eF minP ma) (.Call (.Name "min" p) (e :: es) [] pos) := ej_callB (cr_minZ hc) cv_min hm (by decide +kernel) h hg (he := he) (hpl := hpl)
theorem ej_all (hc : C.X.calm = true) (hm : C.X.mg "all" = none) (h : Aj C ma (e :: es)) (hg : Gl C.X "all" := by rfl) (he : Se C e es := by exact se_of rfl) (hpl : Pl C es pos := by exact pl_of rfl) : Ej C (eF allP ma) (.Call (.Name "all" p) (e :: es) [] pos) := ej_callB (cr_all hc) cv_all hm (by decide +kernel) h hg (he := he) (hpl := hpl)
theorem ej_any (hc : C.X.calm = true) (hm : C.X.mg "any" = none) (h : Aj C ma (e :: es)) (hg : Gl C.X "any" := by rfl) (he : Se C e es := by exact se_of rfl) (hpl : Pl C es pos := by exact pl_of rfl) : Ej C (eF anyP ma) (.Call (.Name "any" p) (e :: es) [] pos) := ej_callB (cr_any hc) cv_any hm (by decide +kernel) h hg (he := he) (hpl := hpl)
theorem ej_sum (hc : C.X.calm = true) (hm : C.X.mg "sum" = none) (h : Aj C ma (e :: es)) (hg : Gl C.X "sum" := by rfl) (he : Se C e es := by exact se_of rfl) (hpl : Pl C es pos := by exact pl_of rfl) : Ej C (eF sumP ma) (.Call (.Name "sum" p) (e :: es) [] pos) := ej_callB (cr_sum hc) cv_sum hm (by decide +kernel) h hg (he := he) (hpl := hpl)
theorem ej_intC (hm : C.X.mg "int" = none) (h : Aj C ma (e :: es)) (hg : Gl C.X "int" := by rfl) (he : Se C e es := by exact se_of rfl) (hpl : Pl C es pos := by exact pl_of rfl) : Ej C (eF intP ma) (.Call (.Name "int" p) (e :: es) [] pos) := ej_callTy cr_int cv_int hm boot_int h hg (he := he) (hpl := hpl)
theorem ej_strC (hm : C.X.mg "str" = none) (h : Aj C ma (e :: es)) (hg : Gl C.X "str" := by rfl) (he : Se C e es := by exact se_of rfl) (hpl : Pl C es pos := by exact pl_of rfl) : Ej C (eF strP ma) (.Call (.Name "str" p) (e :: es) [] pos) := ej_callTy call_str_int cv_str hm (by decide +kernel) h hg (he := he) (hpl := hpl)
theorem ej_tupleC (hm : C.X.mg "tuple" = none) (h : Aj C ma (e :: es)) (hg : Gl C.X "tuple" := by rfl) (he : Se C e es := by exact se_of rfl) (hpl : Pl C es pos := by exact pl_of rfl) : Ej C (eF tupleP ma) (.Call (.Name "tuple" p) (e :: es) [] pos) := ej_callTy call_tuple_of cv_tuple hm (by decide +kernel) h hg (he := he) (hpl := hpl)
theorem ej_listC (hm : C.X.mg "list" = none) (h : Aj C ma (e :: es)) (hg : Gl C.X "list" := by rfl) (he : Se C e es := by exact se_of rfl) (hpl : Pl C es pos := by exact pl_of rfl) : Ej C (eF listP ma) (.Call (.Name "list" p) (e :: es) [] pos) := ej_callTy call_list_of cv_list hm (by decide +kernel) h hg (he := he) (hpl := hpl)
end
end Z

namespace Z
open PySem PySem.Spec PyProof.Rows L2
section
variable {C : Kx} {a b c d e tg iter : Expr} {es : List Expr} {pos p : Pos} {x y z u : Str} {ma : MA} {m me : M} {K : Fr}
/-! ### a, b = .., .. -/
def setAll (sl : Slots) : List Nat → List D → Slots
  | j :: js, d :: ds => setAll (sl.set j (some d)) js ds
  | _, _ => sl
def sPar (js : List Nat) (ma : MA) : MS := fun sl S => (ma sl S).st sl fun ds S1 => if ds.length = js.length then .nx (setAll sl js ds) S1 else .no
theorem rel2 {F : Hp} {R : List Addr} {vs : List V} {ds : List D} (h : RelAll K F R vs ds) (hl : ds.length = 2) : ∃ v w d e, vs = [v, w] ∧ ds = [d, e] ∧ RelD K F R v d ∧ RelD K F R w e := by
  cases h with
  | nil => cases hl
  | cons h t =>
    cases t with
    | nil => cases hl
    | cons h2 t =>
      cases t with
      | nil => exact ⟨_, _, _, _, rfl, rfl, h, h2⟩
      | cons h3 t => simp at hl
theorem rel3 {F : Hp} {R : List Addr} {vs : List V} {ds : List D} (h : RelAll K F R vs ds) (hl : ds.length = 3) : ∃ v w u d e f, vs = [v, w, u] ∧ ds = [d, e, f] ∧ RelD K F R v d ∧ RelD K F R w e ∧ RelD K F R u f := by
  cases h with
  | nil => cases hl
  | cons h t =>
    obtain ⟨w, u, e, f, rfl, rfl, h2, h3⟩ := rel2 t (by simpa using hl)
    exact ⟨_, _, _, _, _, _, rfl, rfl, h, h2, h3⟩
theorem rel4 {F : Hp} {R : List Addr} {vs : List V} {ds : List D} (h : RelAll K F R vs ds) (hl : ds.length = 4) : ∃ v w u t d e f g, vs = [v, w, u, t] ∧ ds = [d, e, f, g] ∧ RelD K F R v d ∧ RelD K F R w e ∧ RelD K F R u f ∧ RelD K F R t g := by
  cases h with
  | nil => cases hl
  | cons h t =>
    obtain ⟨w, u, s, e, f, g, rfl, rfl, h2, h3, h4⟩ := rel3 t (by simpa using hl)
    exact ⟨_, _, _, _, _, _, _, _, rfl, rfl, h, h2, h3, h4⟩
abbrev Lo (C : Kx) (x : Str) : Prop := C.X.env.scope.names.lookup x = some .local
theorem sj_par2 (i j : Nat) {px py pt : Pos} {kt k2 pt2} (hc : C.X.calm = true) (hN : C.X.N.Nodup) (h : Aj C ma [a, b]) (hi : C.X.N[i]? = some x := by rfl) (hj : C.X.N[j]? = some y := by rfl) (hij : i ≠ j := by decide) (hx : Lo C x := by rfl) (hy : Lo C y := by rfl)
    (hw : swappedStores [.Tuple [.Name x px, .Name y py] kt pt] (.Tuple [a, b] k2 pt2) C.X.env = pure (some [x, y]) := by rfl)
    (hs' : swapsWithSole [.Tuple [.Name x px, .Name y py] kt pt] (.Tuple [a, b] k2 pt2) pos.line C.X.env = pure false := by rfl) : Sj1 C (sPar [i, j] ma) (.Assign [.Tuple [.Name x px, .Name y py] kt pt] (.Tuple [a, b] k2 pt2) pos) := .mk fun sl S σ F R H hs hr D post =>
  SD1.of (ps_par hc hN hi hj hij hx hy pa_d hw hs') (h sl S σ F R H hs hr _ (PostS.bind post hs fun ds S1 vs F1 R1 H1 _ rx rep1 s1 r1 hs1 post1 => by
    by_cases hl : ds.length = 2
    · have post1 := (if_pos (c := ds.length = [i, j].length) hl) ▸ post1
      obtain ⟨v, w, d, e, rfl, rfl, h1, h2⟩ := rel2 rx hl
      exact ⟨v, w, rfl, post1 _ F1 R1 H1 ((hs1.set h1).set h2) rep1 (Same.refl _) pre_refl⟩
    · have post1 := (if_neg (c := ds.length = [i, j].length) hl) ▸ post1
      exact post1.elim))
theorem sj_par3 (i j l : Nat) {px py pz pt : Pos} {kt k2 pt2} (hc : C.X.calm = true) (hN : C.X.N.Nodup) (h : Aj C ma [a, b, c]) (hi : C.X.N[i]? = some x := by rfl) (hj : C.X.N[j]? = some y := by rfl) (hk : C.X.N[l]? = some z := by rfl) (hij : i ≠ j := by decide) (hil : i ≠ l := by decide) (hjl : j ≠ l := by decide) (hx : Lo C x := by rfl) (hy : Lo C y := by rfl) (hz : Lo C z := by rfl)
    (hw : swappedStores [.Tuple [.Name x px, .Name y py, .Name z pz] kt pt] (.Tuple [a, b, c] k2 pt2) C.X.env = pure (some [x, y, z]) := by rfl)
    (hs' : swapsWithSole [.Tuple [.Name x px, .Name y py, .Name z pz] kt pt] (.Tuple [a, b, c] k2 pt2) pos.line C.X.env = pure false := by rfl) : Sj1 C (sPar [i, j, l] ma) (.Assign [.Tuple [.Name x px, .Name y py, .Name z pz] kt pt] (.Tuple [a, b, c] k2 pt2) pos) := .mk fun sl S σ F R H hs hr D post =>
  SD1.of (ps_par3 hc hN hi hj hk hij hil hjl hx hy hz pa_d hw hs') (h sl S σ F R H hs hr _ (PostS.bind post hs fun ds S1 vs F1 R1 H1 _ rx rep1 s1 r1 hs1 post1 => by
    by_cases hl : ds.length = 3
    · have post1 := (if_pos (c := ds.length = [i, j, l].length) hl) ▸ post1
      obtain ⟨v, w, u, d, e, f, rfl, rfl, h1, h2, h3⟩ := rel3 rx hl
      exact ⟨v, w, u, rfl, post1 _ F1 R1 H1 (((hs1.set h1).set h2).set h3) rep1 (Same.refl _) pre_refl⟩
    · have post1 := (if_neg (c := ds.length = [i, j, l].length) hl) ▸ post1
      exact post1.elim))
/-- through a tuple that nobody keeps: any names -/
theorem Rep.own {G F H : Hp} {R : List Addr} {S : Store} {q : Addr} {o : HO} (h : Rep K G F R S H) (n : H q = none) : Rep K G F R S (upd H q o) := h.grow (Grow.own h.sub n)
abbrev Fl' (C : Kx) (x : Str) : Prop := C.X.fn x = true ∨ C.X.env.scope.names.lookup x = some .local
theorem sj_parT2 (i j : Nat) {px py pt : Pos} {kt k2 pt2} (hc : C.X.calm = true) (hN : C.X.N.Nodup) (h : Aj C ma [a, b]) (hi : C.X.N[i]? = some x := by rfl) (hj : C.X.N[j]? = some y := by rfl) (hx : Loc C.X.env.scope x := by first | exact Or.inl rfl | exact Or.inr rfl) (hy : Loc C.X.env.scope y := by first | exact Or.inl rfl | exact Or.inr rfl)
    (fx : Fl' C x := by first | exact .inl rfl | exact .inr rfl) (fy : Fl' C y := by first | exact .inl rfl | exact .inr rfl) (hw : swappedStores [.Tuple [.Name x px, .Name y py] kt pt] (.Tuple [a, b] k2 pt2) C.X.env = pure none := by rfl)
    (hs' : swapsWithSole [.Tuple [.Name x px, .Name y py] kt pt] (.Tuple [a, b] k2 pt2) pos.line C.X.env = pure false := by rfl) : Sj1 C (sPar [i, j] ma) (.Assign [.Tuple [.Name x px, .Name y py] kt pt] (.Tuple [a, b] k2 pt2) pos) := .mk fun sl S σ F R H hs hr D post =>
  SD1.of (ps_asg (pe_tup pa_d) (pg_tup hc (pgs_cons (pg_name hN hi hx fx) (pgs_cons (pg_name hN hj hy fy) pgs_nil))) hs' hw) (h sl S σ F R H hs hr _ (PostS.bind post hs fun ds S1 vs F1 R1 H1 _ rx rep1 s1 r1 hs1 post1 => by
    by_cases hl : ds.length = 2
    · have post1 := (if_pos (c := ds.length = [i, j].length) hl) ▸ post1
      obtain ⟨v, w, d, e, rfl, rfl, h1, h2⟩ := rel2 rx hl
      refine ⟨by show 2 ≤ sizeLine; decide, fun p hp => ⟨p, [v, w], rfl, .inl (.inl upd_same), rfl, v, _, rfl, w, _, rfl, rfl, ?_⟩⟩
      exact post1 _ F1 R1 _ ((hs1.set h1).set h2) (rep1.own hp) (Same.refl _) pre_refl
    · have post1 := (if_neg (c := ds.length = [i, j].length) hl) ▸ post1
      exact post1.elim))
theorem sj_parT3 (i j l : Nat) {px py pz pt : Pos} {kt k2 pt2} (hc : C.X.calm = true) (hN : C.X.N.Nodup) (h : Aj C ma [a, b, c]) (hi : C.X.N[i]? = some x := by rfl) (hj : C.X.N[j]? = some y := by rfl) (hk : C.X.N[l]? = some z := by rfl) (hx : Loc C.X.env.scope x := by first | exact Or.inl rfl | exact Or.inr rfl) (hy : Loc C.X.env.scope y := by first | exact Or.inl rfl | exact Or.inr rfl) (hz : Loc C.X.env.scope z := by first | exact Or.inl rfl | exact Or.inr rfl)
    (fx : Fl' C x := by first | exact .inl rfl | exact .inr rfl) (fy : Fl' C y := by first | exact .inl rfl | exact .inr rfl) (fz : Fl' C z := by first | exact .inl rfl | exact .inr rfl) (hw : swappedStores [.Tuple [.Name x px, .Name y py, .Name z pz] kt pt] (.Tuple [a, b, c] k2 pt2) C.X.env = pure none := by rfl)
    (hs' : swapsWithSole [.Tuple [.Name x px, .Name y py, .Name z pz] kt pt] (.Tuple [a, b, c] k2 pt2) pos.line C.X.env = pure false := by rfl) : Sj1 C (sPar [i, j, l] ma) (.Assign [.Tuple [.Name x px, .Name y py, .Name z pz] kt pt] (.Tuple [a, b, c] k2 pt2) pos) := .mk fun sl S σ F R H hs hr D post =>
  SD1.of (ps_asg (pe_tup pa_d) (pg_tup hc (pgs_cons (pg_name hN hi hx fx) (pgs_cons (pg_name hN hj hy fy) (pgs_cons (pg_name hN hk hz fz) pgs_nil)))) hs' hw) (h sl S σ F R H hs hr _ (PostS.bind post hs fun ds S1 vs F1 R1 H1 _ rx rep1 s1 r1 hs1 post1 => by
    by_cases hl : ds.length = 3
    · have post1 := (if_pos (c := ds.length = [i, j, l].length) hl) ▸ post1
      obtain ⟨v, w, u, d, e, f, rfl, rfl, h1, h2, h3⟩ := rel3 rx hl
      refine ⟨by show 3 ≤ sizeLine; decide, fun p hp => ⟨p, [v, w, u], rfl, .inl (.inl upd_same), rfl, v, _, rfl, w, _, rfl, u, _, rfl, rfl, ?_⟩⟩
      exact post1 _ F1 R1 _ (((hs1.set h1).set h2).set h3) (rep1.own hp) (Same.refl _) pre_refl
    · have post1 := (if_neg (c := ds.length = [i, j, l].length) hl) ▸ post1
      exact post1.elim))
theorem sj_parT4 (i j l n : Nat) {px py pz pu pt : Pos} {kt k2 pt2} (hc : C.X.calm = true) (hN : C.X.N.Nodup) (h : Aj C ma [a, b, c, d]) (hi : C.X.N[i]? = some x := by rfl) (hj : C.X.N[j]? = some y := by rfl) (hk : C.X.N[l]? = some z := by rfl) (hn : C.X.N[n]? = some u := by rfl) (hx : Loc C.X.env.scope x := by first | exact Or.inl rfl | exact Or.inr rfl) (hy : Loc C.X.env.scope y := by first | exact Or.inl rfl | exact Or.inr rfl) (hz : Loc C.X.env.scope z := by first | exact Or.inl rfl | exact Or.inr rfl) (hu : Loc C.X.env.scope u := by first | exact Or.inl rfl | exact Or.inr rfl)
    (fx : Fl' C x := by first | exact .inl rfl | exact .inr rfl) (fy : Fl' C y := by first | exact .inl rfl | exact .inr rfl) (fz : Fl' C z := by first | exact .inl rfl | exact .inr rfl) (fu : Fl' C u := by first | exact .inl rfl | exact .inr rfl) (hw : swappedStores [.Tuple [.Name x px, .Name y py, .Name z pz, .Name u pu] kt pt] (.Tuple [a, b, c, d] k2 pt2) C.X.env = pure none := by rfl)
    (hs' : swapsWithSole [.Tuple [.Name x px, .Name y py, .Name z pz, .Name u pu] kt pt] (.Tuple [a, b, c, d] k2 pt2) pos.line C.X.env = pure false := by rfl) : Sj1 C (sPar [i, j, l, n] ma) (.Assign [.Tuple [.Name x px, .Name y py, .Name z pz, .Name u pu] kt pt] (.Tuple [a, b, c, d] k2 pt2) pos) := .mk fun sl S σ F R H hs hr D post =>
  SD1.of (ps_asg (pe_tup pa_d) (pg_tup hc (pgs_cons (pg_name hN hi hx fx) (pgs_cons (pg_name hN hj hy fy) (pgs_cons (pg_name hN hk hz fz) (pgs_cons (pg_name hN hn hu fu) pgs_nil))))) hs' hw) (h sl S σ F R H hs hr _ (PostS.bind post hs fun ds S1 vs F1 R1 H1 _ rx rep1 s1 r1 hs1 post1 => by
    by_cases hl : ds.length = 4
    · have post1 := (if_pos (c := ds.length = [i, j, l, n].length) hl) ▸ post1
      obtain ⟨v, w, u, t, d, e, f, g, rfl, rfl, h1, h2, h3, h4⟩ := rel4 rx hl
      refine ⟨by show 4 ≤ sizeLine; decide, fun p hp => ⟨p, [v, w, u, t], rfl, .inl (.inl upd_same), rfl, v, _, rfl, w, _, rfl, u, _, rfl, t, _, rfl, rfl, ?_⟩⟩
      exact post1 _ F1 R1 _ ((((hs1.set h1).set h2).set h3).set h4) (rep1.own hp) (Same.refl _) pre_refl
    · have post1 := (if_neg (c := ds.length = [i, j, l, n].length) hl) ▸ post1
      exact post1.elim))
/-! a < b < c as a test -/
theorem tj_of {m : M} {t : TE} (hp : PT C.X e (tTest t)) (h : ∀ sl S σ F R H, SlR C.K C.px F R σ sl → Rep C.K C.G F R S H → ∀ Q : VK, Post C σ F R (RelD C.K) Q (m sl S) → t σ H Q) : Tj C (fun sl S => (m sl S).bind asB) e := .mk fun sl S σ F R H hs hr Q post => by
  have post' : Post C σ F R (RelD C.K) (fun x H' => ∃ k, x = .bl k ∧ Q k H') (m sl S) := Post.bind post fun d S1 x F1 R1 H1 _ rx rep1 s1 r1 post1 => by
    cases d with
    | ref n => exact post1.elim
    | p q =>
      cases q <;> first | exact post1.elim | skip
      cases rx
      exact ⟨_, rfl, post1.okv rfl rep1⟩
  exact TD.of hp (h sl S σ F R H hs hr _ post')
def tCh (f g : Int → Int → Bool) (m1 m2 m3 : M) : MT := fun sl S => (eCh f g m1 m2 m3 sl S).bind asB
theorem tj_chain {op op' : CmpOp} {f g : Int → Int → Bool} {m1 m2 m3 : M} (ho : OpR C.X (compareOp op) (rI0 fun i j => .bl (f i j))) (ho' : OpR C.X (compareOp op') (rI0 fun i j => .bl (g i j))) (h1 : Ej C m1 a) (h2 : Ej C m2 b) (h3 : Ej C m3 c)
    (hm : lastMarks [op, op'] [b, c] = false := by with_unfolding_all rfl) : Tj C (tCh f g m1 m2 m3) (.Compare a [op, op'] [b, c] pos) := tj_of (pt_chain ho ho' pe_d pe_d pe_d hm) fun sl S σ F R H hs hr Q post =>
  h1 sl S σ F R H hs hr _ (Post.bind post fun d1 S1 x F1 R1 H1 _ rx rep1 s1 r1 post1 => h2 sl S1 σ F1 R1 H1 (hs.mono s1 r1) rep1 _ (Post.bind post1 fun d2 S2 y F2 R2 H2 _ ry rep2 s2 r2 post2 => by
    obtain ⟨i, rfl, post2⟩ := asI_post (rx.mono s2 r2) rep2 post2
    obtain ⟨j, rfl, post2⟩ := asI_post ry rep2 post2
    refine ⟨i, j, rfl, rfl, f i j, rfl, ?_⟩
    cases hf : f i j with
    | false =>
      rw [hf] at post2
      show Q (.bl false) H2
      exact Post.okv (show Post C σ F2 R2 (RelD C.K) Q (.ok (.p (.bl false)) S2) from post2) (show RelD C.K F2 R2 (.bl false) (.p (.bl false)) from .bl _) rep2
    | true =>
      rw [hf] at post2
      show ED C.X c σ H2 _
      have post2 : Post C σ F2 R2 (RelD C.K) Q ((m3 sl S2).bind fun d3 S3 => (asI S3 d3).bind fun k S3 => .ok (.p (.bl (g j k))) S3) := post2
      refine h3 sl S2 σ F2 R2 H2 ((hs.mono s1 r1).mono s2 r2) rep2 _ (Post.bind post2 fun d3 S3 z F3 R3 H3 _ rz rep3 s3 r3 post3 => ?_)
      obtain ⟨k, rfl, post3⟩ := asI_post rz rep3 post3
      exact ⟨j, k, rfl, rfl, post3.okv (show RelD C.K F3 R3 (.bl (g j k)) (.p (.bl (g j k))) from .bl _) rep3⟩))
theorem tj_lele {m1 m2 m3 : M} (h1 : Ej C m1 a) (h2 : Ej C m2 b) (h3 : Ej C m3 c) (hm : lastMarks [.LtE, .LtE] [b, c] = false := by with_unfolding_all rfl) : Tj C (tCh (fun i j => decide (i ≤ j)) (fun i j => decide (i ≤ j)) m1 m2 m3) (.Compare a [.LtE, .LtE] [b, c] pos) := tj_chain op_le op_le h1 h2 h3 hm
theorem tj_lelt {m1 m2 m3 : M} (h1 : Ej C m1 a) (h2 : Ej C m2 b) (h3 : Ej C m3 c) (hm : lastMarks [.LtE, .Lt] [b, c] = false := by with_unfolding_all rfl) : Tj C (tCh (fun i j => decide (i ≤ j)) (fun i j => decide (i < j)) m1 m2 m3) (.Compare a [.LtE, .Lt] [b, c] pos) := tj_chain op_le op_lt h1 h2 h3 hm
theorem tj_ltlt {m1 m2 m3 : M} (h1 : Ej C m1 a) (h2 : Ej C m2 b) (h3 : Ej C m3 c) (hm : lastMarks [.Lt, .Lt] [b, c] = false := by with_unfolding_all rfl) : Tj C (tCh (fun i j => decide (i < j)) (fun i j => decide (i < j)) m1 m2 m3) (.Compare a [.Lt, .Lt] [b, c] pos) := tj_chain op_lt op_lt h1 h2 h3 hm
/-! ### x op= e -/
def sAug (i : Nat) (f : P → P → Option P) (m : M) : MS := fun sl S => match sl[i]? with
  | some (some d) => (m sl S).st sl fun e S1 => match lift2 f d e S1 with
    | .ok z S2 => .nx (sl.set i (some z)) S2
    | _ => .no
  | _ => .no
def AugV (K : Fr) (t : TIp) (f : P → P → Option P) : Prop := BinV K t f
theorem sj_aug {op : Operator} {ti : TIp} {f : P → P → Option P} {pos' : Pos} (i : Nat) (ho : PIp C.X op ti) (hb : BinV C.K ti f) (hN : C.X.N.Nodup) (h : Ej C m e) (hi : C.X.N[i]? = some x := by rfl) (hx : Loc C.X.env.scope x := by first | exact Or.inl rfl | exact Or.inr rfl)
    (hf : Fl' C x := by first | exact .inl rfl | exact .inr rfl) : Sj1 C (sAug i f m) (.AugAssign (.Name x pos') op e pos) := .mk fun sl S σ F R H hs hr D post => by
  unfold sAug at post
  cases hd : sl[i]? with
  | none => rw [hd] at post; exact post.elim
  | some od =>
    rw [hd] at post
    cases od with
    | none => exact post.elim
    | some d =>
      obtain ⟨v, e1, rv⟩ := hs.get i d hd
      refine SD1.of (ps_aug hN hi hx pe_d ho hf) ⟨v, e1, h sl S σ F R H hs hr _ (PostS.bind post hs fun d2 S1 y F1 R1 H1 _ ry rep1 s1 r1 hs1 post1 => ?_)⟩
      refine lift2_post (C := C) (σ := σ) (F := F1) (R := R1) rfl hb (rv.mono s1 r1) ry rep1 ?_
      cases hz : lift2 f d d2 S1 with
      | ok z S2 =>
        simp only [hz] at post1
        exact fun v' F' R' H' rv' rep' s' r' => post1 _ F' R' H' ((hs1.mono s' r').set rv') rep' s' r'
      | exc x S2 => simp only [hz] at post1; exact post1.elim
      | no => simp only [hz] at post1; exact post1.elim
theorem sj_augAdd {pos' : Pos} (i : Nat) (hN : C.X.N.Nodup) (h : Ej C m e) (hi : C.X.N[i]? = some x := by rfl) (hx : Loc C.X.env.scope x := by first | exact Or.inl rfl | exact Or.inr rfl) (hf : Fl' C x := by first | exact .inl rfl | exact .inr rfl) : Sj1 C (sAug i (fun p q => match p, q with | .int m, .int n => some (.int (m + n)) | _, _ => none) m) (.AugAssign (.Name x pos') .Add e pos) :=
  sj_aug i ip_add (bv_I0 (g := fun i j => .int (i + j)) (h := fun i j => .int (i + j)) (fun p q z e => by split at e <;> cases e; exact ⟨_, _, rfl, rfl, rfl⟩) fun _ _ _ => .int _) hN h hi hx hf
end
end Z
theorem L2.Room.u65 {k : Nat} {A : PySem.Around} (r : L2.Room k A) : A.units + 65 < PySem.cLine := by have := r.un; omega
theorem L2.Room.u1 {k : Nat} {A : PySem.Around} (r : L2.Room k A) : A.units + 1 < PySem.cLine := by have := r.un; omega

namespace Z
open PySem PySem.Spec PyProof.Rows L2
/-! ### enumerate(tuple) -/
def IteT (K : PySem.W.Frag) (a : Addr) : It :=
  ⟨fun i H => ∃ (xs : List V) (x : V), SqT K H a xs ∧ xs[i]? = some x, fun i H v H' => ∃ T x, v = .ref T ∧ H T = none ∧ H' = upd H T (.tup [.int (i : Nat), x]) ∧ ∀ xs, SqT K H a xs → xs[i]? = some x, fun i H => ∃ xs : List V, SqT K H a xs ∧ xs.length = i⟩
theorem turn_enumT {P : Program} {w : World} {K : PySem.W.Frag} {elts : List Expr} {kk : Nat} {tpos : Pos} (a e it : Addr) (hea : e ≠ a) (hia : a ≠ it) :
    Turn P w K (.Tuple elts kk tpos) (IteT K a) [e, it] e (fun i h => (∃ old, IsEnum h e it ((i : Nat) : Int) old) ∧ h.IsTupleIter it a i ∧ e ≠ it) where
  mem := by simp
  obj := fun i h st b hb => by
    obtain ⟨⟨old, he⟩, ⟨o, ho, hc, hd⟩, _⟩ := st
    have e' : b = e ∨ b = it := by simpa using hb
    rcases e' with z | z
    · rw [z]; exact ⟨_, he, fun v q => nomatch q⟩
    · rw [z]; exact ⟨o, ho, fun v q => by rw [hd] at q; cases q⟩
  keep := fun i h h' st k => let ⟨⟨old, he⟩, hi, hne⟩ := st; ⟨⟨old, k e (by simp) _ he⟩, hi.at fun o q => k it (by simp) o q, hne⟩
  item := by
    intro X hP hw hK hc i pins s σ H E I hf st hg
    subst hP hw hK
    obtain ⟨⟨old, he⟩, hit, hne⟩ := st
    obtain ⟨xs, x, hq, hx⟩ := hg
    obtain ⟨its, rv, p, hz⟩ := I.tuple hq
    obtain ⟨u, hu, ru⟩ := rv.get hx
    have hel : e < s.heap.objs.size := Heap.lt_size he
    have hil : it < s.heap.objs.size := by obtain ⟨_, q, _⟩ := hit; exact Heap.lt_size q
    have hlt : i < its.toArray.size := by
      rw [List.size_toArray]
      exact (List.getElem?_eq_some_iff.mp hu).1
    refine wpAny_pyNext_enum_itemC (Draws.tuple (A := X.A.in1) (I.ok.hd hc) it a hia its.toArray) he ⟨hit, p⟩ hlt hne (by simp; exact ⟨hne, hea⟩) fun x' h' tk hP ho hst hT hsz hk => ?_
    have ex : x' = u := by
      have : its.toArray[i]? = some u := by simpa using hu
      rw [hP] at this; exact Option.some.inj this
    subst ex
    obtain ⟨hit', _⟩ := hst
    refine ⟨_, rfl, wpAny_letOwnedTupleGo_enum (s := { s with heap := h', toks := tk + 1 }) ho fun h'' he' sb => ?_⟩
    have hT2 : h''.get? s.heap.objs.size = some { cls := .type "tuple", data := .seq #[.int i tk, x'] } := (sb.2 _ (Nat.ne_of_gt hel)).trans hT
    have new : ObjOk X.prog X.w (upd H s.heap.objs.size (.tup [.int (i : Nat), x])) h'' s.heap.objs.size (.tup [.int (i : Nat), x]) :=
      ⟨by show 2 ≤ sizeLine; decide, [.int i tk, x'], .cons ⟨_, rfl⟩ (.cons ru .nil), ⟨_, hT2, rfl, _, rfl⟩⟩
    have I1 : Inv X pins σ (upd H s.heap.objs.size (.tup [.int (i : Nat), x])) { s with heap := h'', toks := tk + 1 } :=
      I.turnedNew (ch := [e, it]) (fun b ob hb q => (sb.2 b (fun z => hb (by simp [z]))).trans (hk b ob (fun z => hb (by simp [z])) (fun z => hb (by simp [z])) q)) hf (Nat.le_refl _) new
    refine ⟨.ref s.heap.objs.size, _, I1, rfl, ⟨_, x, rfl, I.hok.fresh (Nat.le_refl _), rfl, fun ys hy => by rw [I.tuple_inj hy hq]; exact hx⟩, ⟨⟨x', ?_⟩, hit'.at fun o q => (sb.2 it (Ne.symm hne)).trans q, hne⟩, fun b hb => ?_⟩
    · have e1 : ((i + 1 : Nat) : Int) = (i : Int) + 1 := by omega
      rw [e1]; exact he'
    · have hb' : b < s.heap.objs.size := by
        have e' : b = e ∨ b = it := by simpa using hb
        rcases e' with z | z
        · rw [z]; exact hel
        · rw [z]; exact hil
      rw [upd_ne (Nat.ne_of_lt hb')]
      exact (hf b hb).1
  done := by
    intro X hP hw hK hc i pins s σ H E I hf st hg
    subst hP hw hK
    obtain ⟨⟨old, he⟩, hit, hne⟩ := st
    obtain ⟨xs, hq, hx⟩ := hg
    obtain ⟨its, rv, p, hz⟩ := I.tuple hq
    obtain ⟨f0, f1, f2, f3, f4, f5⟩ := hf it (by simp)
    have hl := rv.length
    have hn : i = its.toArray.size := by rw [List.size_toArray, ← hl, hx]
    exact wpAny_pyNext_enum_endD (Draws.tuple (A := X.A.in1) (I.ok.hd hc) it a hia its.toArray) he (by rw [← hn]; exact ⟨hit, p⟩) fun h' eb => ⟨rfl, I.turned (t' := s.toks) (fun b o hb q => eb b o hb q) f0 f1 f3 f4 f5⟩
  self := fun A i s Q E st h => let ⟨⟨_, he⟩, _⟩ := st; wpAny_pyIter_enum he h
open AutoSeq1 (wpAny_loadPart') in
set_option maxHeartbeats 4000000 in
theorem meets_enumerate_new1 {v : Value} {o : Obj} {H : Heap → Prop} (B : Begins v o H) :
    Meets (Builtin.«enumerate.__new__» ⟨[.type "enumerate", v], []⟩) (fun _ R s => H s.heap ∧
      R (.ok (.ret (.ref (s.heap.push o).objs.size))) { s with heap := (s.heap.push o).push { cls := .type "enumerate", data := .fields #[.none, .bool false, .ref s.heap.objs.size, rawInt 0, .none, .none] } }) :=
  .of_wp fun prog w A R s h => by
    obtain ⟨hp, g, d, tk, os⟩ := s; obtain ⟨h1, h⟩ := h
    have hsub := sub_enumerate
    have q1 : ∀ {A' : Around} {E : Value → Shared → Prop} {Q : Value → Shared → Prop}, Q (.ref hp.objs.size) ⟨hp.push o, g, d, tk, os⟩ → wpAny (model prog w) A' (pyIter v) Q E ⟨hp, g, d, tk, os⟩ :=
      fun q => B.iter prog w _ _ ⟨hp, g, d, tk, os⟩ _ h1 q
    wp_walk using q1
    refine wpAny_stack_any fun st => wpAny_pure ?_
    split
    · rename_i c _ _ _ _ _
      cases (c == Value.type "enumerate")
      · wp_walk using q1
        exact ⟨_, rfl, h⟩
      · wp_walk using q1
        exact ⟨_, rfl, h⟩
    · wp_walk using q1
      exact ⟨_, rfl, h⟩
theorem call_enumerate_begins {prog : Program} {w : World} {A : Around} {E : Value → Shared → Prop} {s : Shared} {v : Value} {o : Obj} {H : Heap → Prop} {Q : Value → Shared → Prop} (B : Begins v o H) (h1 : H s.heap)
    (h : ∀ h', IsEnum h' (s.heap.objs.size + 1) s.heap.objs.size 0 .none → h'.get? s.heap.objs.size = some o → h'.objs.size = s.heap.objs.size + 2 →
      (∀ b o, s.heap.get? b = some o → h'.get? b = some o) → Q (.ref (s.heap.objs.size + 1)) { s with heap := h' }) :
    wpAny (model prog w) A (call (.type "enumerate") [v]) Q E s := by
  refine callType_new F.called_enumerate (by decide) (F.typeCall_enumerate_1 _) (F.newCall_enumerate_1 _) (fun obj => F.args_object_init_2 obj _) F.entry_enumerate_new
    (meets_enumerate_new1 B) ⟨h1, ?_⟩
  have hz : (s.heap.push o).objs.size = s.heap.objs.size + 1 := Heap.size_push ..
  show _ ∧ _
  rw [hz]
  have he : IsEnum ((s.heap.push o).push { cls := .type "enumerate", data := .fields #[.none, .bool false, .ref s.heap.objs.size, rawInt 0, .none, .none] }) (s.heap.objs.size + 1) s.heap.objs.size 0 .none := by
    have := Heap.get?_push_size (s.heap.push o) (o := { cls := .type "enumerate", data := .fields #[.none, .bool false, .ref s.heap.objs.size, rawInt 0, .none, .none] }) rfl
    rw [hz] at this; exact this
  refine ⟨⟨_, he, rfl⟩, h _ he (Heap.get?_push_of_some _ (Heap.get?_push_size _ B.free)) (by rw [Heap.size_push, hz]) fun b o x => Heap.get?_push_of_some _ (Heap.get?_push_of_some _ x)⟩
def iEnumA (K : PySem.W.Frag) (ta : TA) : TI := fun σ H R => ta σ H fun vs H1 => (∃ a xs, vs = [.ref a] ∧ SqL K H1 a xs ∧ R (Ite K a) H1) ∨ ∃ a xs, vs = [.ref a] ∧ SqT K H1 a xs ∧ R (IteT K a) H1
theorem pi_enumA {X : Cx} {e : Expr} {ta : TA} {p pos tpos : Pos} {elts : List Expr} {kk : Nat} (hg : Gl X "enumerate") (hm : X.mg "enumerate" = none) (ha : PA X [e] ta) (hs : starEach [e] X.env = [(false, eval e X.env)] := by rfl) :
    PI X (.Tuple elts kk tpos) (.Call (.Name "enumerate" p) [e] [] pos) (iEnumA X.K ta) := by
  refine ⟨fun pins s σ H R I h => ?_⟩
  refine Call_ (ld_blt I hg hm boot_enumerate (PyProof.Rows.callWith_type1 (thn (ha.run pos pins s σ H _ I h) fun us s1 ⟨vs, H1, I1, r1, q1⟩ => ?_) hs rfl))
  rcases q1 with ⟨a, xs, ex, hq, q⟩ | ⟨a, xs, ex, hq, q⟩
  · subst ex
    cases r1 with
    | cons r rr =>
      cases rr
      cases r
      obtain ⟨its, rv, p', hz⟩ := I1.list hq
      refine call_enumerate_list p'.isList fun h' he hit hsz hk => wpAny_pyIter_enum he ?_
      have I2 : Inv X pins σ H1 { s1 with heap := h' } := I1.kept (t' := s1.toks) hk
      refine ⟨s1.heap.objs.size + 1, [s1.heap.objs.size + 1, s1.heap.objs.size], _, _, H1, rfl, I2, turn_enum a (s1.heap.objs.size + 1) s1.heap.objs.size, ⟨⟨.none, he⟩, hit, Nat.succ_ne_self _⟩, fun b hb => ?_, q⟩
      have e' : b = s1.heap.objs.size + 1 ∨ b = s1.heap.objs.size := by simpa using hb
      have hle : s1.heap.objs.size ≤ b := by
        rcases e' with z | z
        · rw [z]; exact Nat.le_add_right _ _
        · rw [z]; exact Nat.le_refl _
      exact I1.fpOk hle (I1.hok.fresh hle)
  · subst ex
    cases r1 with
    | cons r rr =>
      cases rr
      cases r
      obtain ⟨its, rv, p', hz⟩ := I1.tuple hq
      have hlt : a < s1.heap.objs.size := by obtain ⟨_, q, _⟩ := p'; exact Heap.lt_size q
      refine call_enumerate_begins (begins_tuple a its.toArray) p' fun h' he hit hsz hk => wpAny_pyIter_enum he ?_
      have I2 : Inv X pins σ H1 { s1 with heap := h' } := I1.kept (t' := s1.toks) hk
      refine ⟨s1.heap.objs.size + 1, [s1.heap.objs.size + 1, s1.heap.objs.size], _, _, H1, rfl, I2, turn_enumT a (s1.heap.objs.size + 1) s1.heap.objs.size (Ne.symm (Nat.ne_of_lt (Nat.lt_succ_of_lt hlt))) (Nat.ne_of_lt hlt), ⟨⟨.none, he⟩, ⟨_, hit, rfl, rfl⟩, Nat.succ_ne_self _⟩, fun b hb => ?_, q⟩
      have e' : b = s1.heap.objs.size + 1 ∨ b = s1.heap.objs.size := by simpa using hb
      have hle : s1.heap.objs.size ≤ b := by
        rcases e' with z | z
        · rw [z]; exact Nat.le_add_right _ _
        · rw [z]; exact Nat.le_refl _
      exact I1.fpOk hle (I1.hok.fresh hle)
/-! ### enumerate, zip, reversed as sources -/
def enumP (ps : List P) : List P := ps.mapIdx fun i p => .tup [.int (i : Int), p]
def zipP (ps qs : List P) : List P := List.zipWith (fun p q => .tup [p, q]) ps qs
section
variable {C : Kx} {a b e : Expr} {pos p : Pos} {m m1 m2 : M} {K : Fr}
theorem pair_rp {F2 H2 : Hp} {T : Addr} {x y : V} {p q : P} (s : Same F2 H2) (n : H2 T = none) (hx : Rp K F2 x p) (hy : Rp K F2 y q) : ∃ F', Grow F2 H2 F' (upd H2 T (.tup [x, y])) ∧ Rp K F' (.ref T) (.tup [p, q]) := by
  have g := Grow.new (o := .tup [x, y]) s n
  exact ⟨_, g, .tup upd_same (.cons (Rp.mono g.sF _ _ hx) (.cons (Rp.mono g.sF _ _ hy) .nil))⟩
theorem it_enum {F : Hp} {a : Addr} {xs : List V} {ds : List P} (h1 : SqL K.K F a xs) (h2 : RpAll K F xs ds) : ItOk K (Ite K.K a) F (enumP ds) := by
  refine ⟨fun i d F2 H2 e s s2 => ?_, fun F2 H2 s s2 => ?_⟩
  · rw [enumP, List.getElem?_mapIdx] at e
    cases hd : ds[i]? with
    | none => rw [hd] at e; cases e
    | some p =>
      rw [hd] at e; cases e
      obtain ⟨v, ev, rv⟩ := h2.get' hd
      have q : SqL K.K H2 a xs := same_sqL s2 (same_sqL s h1)
      refine ⟨⟨xs, v, q, ev⟩, fun x H' y => ?_⟩
      obtain ⟨T, x', rfl, hT, rfl, hall⟩ := y
      have e1 := hall xs q
      rw [ev] at e1; cases e1
      exact pair_rp s2 hT (.int _) (Rp.mono s _ _ rv)
  · exact ⟨xs, same_sqL s2 (same_sqL s h1), by rw [h2.length, enumP, List.length_mapIdx]; exact Nat.le_refl _⟩
theorem it_enumT {F : Hp} {a : Addr} {xs : List V} {ds : List P} (h1 : SqT K.K F a xs) (h2 : RpAll K F xs ds) : ItOk K (IteT K.K a) F (enumP ds) := by
  refine ⟨fun i d F2 H2 e s s2 => ?_, fun F2 H2 s s2 => ?_⟩
  · rw [enumP, List.getElem?_mapIdx] at e
    cases hd : ds[i]? with
    | none => rw [hd] at e; cases e
    | some p =>
      rw [hd] at e; cases e
      obtain ⟨v, ev, rv⟩ := h2.get' hd
      have q : SqT K.K H2 a xs := same_sqT s2 (same_sqT s h1)
      refine ⟨⟨xs, v, q, ev⟩, fun x H' y => ?_⟩
      obtain ⟨T, x', rfl, hT, rfl, hall⟩ := y
      have e1 := hall xs q
      rw [ev] at e1; cases e1
      exact pair_rp s2 hT (.int _) (Rp.mono s _ _ rv)
  · exact ⟨xs, same_sqT s2 (same_sqT s h1), by rw [h2.length, enumP, List.length_mapIdx]⟩
def iEn (m : M) : MI := fun sl S => (m sl S).bind fun d S1 => match d with
  | .p (.lst ps) => .ok (enumP ps) S1
  | .p (.tup ps) => .ok (enumP ps) S1
  | .p (.scr ns) => .ok (enumP (ns.map .int)) S1
  | _ => .no
theorem src_enum (h : Ej C m a) (he : starEach [a] C.X.env = (false, eval a C.X.env) :: starEach [] C.X.env := by exact se_of rfl) : SrcOk C (iEnumA C.X.K (AD C.X [a])) (iEn m) := fun sl S σ F R H hs hr Q post =>
  AD.of (pa_cons pe_d pa_nil he) (h sl S σ F R H hs hr _ (Post.bind post fun d S1 v F1 R1 H1 _ rv rep1 s1 r1 post1 => by
    cases d with
    | ref n => exact post1.elim
    | p q =>
      cases hv : rv with
      | lst h1 h2 => exact .inl ⟨_, _, rfl, .inl (.inl (rep1.sub _ _ h1)), post1.okv (it_enum (.inl (.inl h1)) h2) rep1⟩
      | tup h1 h2 => exact .inr ⟨_, _, rfl, .inl (.inl (rep1.sub _ _ h1)), post1.okv (it_enumT (.inl (.inl h1)) h2) rep1⟩
      | tupW h1 h2 _ => exact .inr ⟨_, _, rfl, same_sqT rep1.sub h1, post1.okv (it_enumT h1 h2) rep1⟩
      | scr h1 => exact .inl ⟨_, _, rfl, same_sqL rep1.sub h1, post1.okv (it_enum h1 (rp_ints _)) rep1⟩
      | _ => exact post1.elim))
theorem it_zip {F : Hp} {a b : Addr} {xs ys : List V} {ds es : List P} (h1 : SqL K.K F a xs) (h2 : RpAll K F xs ds) (h3 : SqL K.K F b ys) (h4 : RpAll K F ys es) : ItOk K (Itz K.K a b) F (zipP ds es) := by
  refine ⟨fun i d F2 H2 e s s2 => ?_, fun F2 H2 s s2 => ?_⟩
  · rw [zipP, List.getElem?_zipWith] at e
    cases hd : ds[i]? with
    | none => rw [hd] at e; cases e
    | some p =>
      cases hd2 : es[i]? with
      | none => rw [hd, hd2] at e; cases e
      | some q =>
        rw [hd, hd2] at e; cases e
        obtain ⟨v, ev, rv⟩ := h2.get' hd
        obtain ⟨w, ew, rw'⟩ := h4.get' hd2
        have q1 : SqL K.K H2 a xs := same_sqL s2 (same_sqL s h1)
        have q2 : SqL K.K H2 b ys := same_sqL s2 (same_sqL s h3)
        refine ⟨⟨xs, ys, v, w, q1, q2, ev, ew⟩, fun x H' y => ?_⟩
        obtain ⟨T, x', y', rfl, hT, rfl, a1, a2⟩ := y
        have e1 := a1 xs q1
        have e2 := a2 ys q2
        rw [ev] at e1; cases e1
        rw [ew] at e2; cases e2
        exact pair_rp s2 hT (Rp.mono s _ _ rv) (Rp.mono s _ _ rw')
  · refine ⟨xs, ys, same_sqL s2 (same_sqL s h1), same_sqL s2 (same_sqL s h3), ?_⟩
    rw [h2.length, h4.length, zipP, List.length_zipWith]
    omega
theorem it_zipT {F : Hp} {a b : Addr} {xs ys : List V} {ds es : List P} (h1 : SqT K.K F a xs) (h2 : RpAll K F xs ds) (h3 : SqT K.K F b ys) (h4 : RpAll K F ys es) : ItOk K (RZ.ItzT K.K a b) F (zipP ds es) := by
  refine ⟨fun i d F2 H2 e s s2 => ?_, fun F2 H2 s s2 => ?_⟩
  · rw [zipP, List.getElem?_zipWith] at e
    cases hd : ds[i]? with
    | none => rw [hd] at e; cases e
    | some p =>
      cases hd2 : es[i]? with
      | none => rw [hd, hd2] at e; cases e
      | some q =>
        rw [hd, hd2] at e; cases e
        obtain ⟨v, ev, rv⟩ := h2.get' hd
        obtain ⟨w, ew, rw'⟩ := h4.get' hd2
        have q1 : SqT K.K H2 a xs := same_sqT s2 (same_sqT s h1)
        have q2 : SqT K.K H2 b ys := same_sqT s2 (same_sqT s h3)
        refine ⟨⟨xs, ys, v, w, q1, q2, ev, ew⟩, fun x H' y => ?_⟩
        obtain ⟨T, x', y', rfl, hT, rfl, a1, a2⟩ := y
        have e1 := a1 xs q1
        have e2 := a2 ys q2
        rw [ev] at e1; cases e1
        rw [ew] at e2; cases e2
        exact pair_rp s2 hT (Rp.mono s _ _ rv) (Rp.mono s _ _ rw')
  · refine ⟨xs, ys, same_sqT s2 (same_sqT s h1), same_sqT s2 (same_sqT s h3), ?_⟩
    rw [h2.length, h4.length, zipP, List.length_zipWith]
    omega
def iZp (m1 m2 : M) : MI := fun sl S => (m1 sl S).bind fun d S1 => (m2 sl S1).bind fun e S2 => match d, e with
  | .p (.lst ps), .p (.lst qs) => .ok (zipP ps qs) S2
  | .p (.tup ps), .p (.tup qs) => .ok (zipP ps qs) S2
  | _, _ => .no
theorem src_zip (h1 : Ej C m1 a) (h2 : Ej C m2 b) (he : starEach [a, b] C.X.env = (false, eval a C.X.env) :: starEach [b] C.X.env := by exact se_of rfl) (he2 : starEach [b] C.X.env = (false, eval b C.X.env) :: starEach [] C.X.env := by exact se_of rfl) : SrcOk C (RZ.iZipA C.X.K (AD C.X [a, b])) (iZp m1 m2) := fun sl S σ F R H hs hr Q post =>
  AD.of (pa_cons pe_d (pa_cons pe_d pa_nil he2) he) (h1 sl S σ F R H hs hr _ (Post.bind post fun d S1 v F1 R1 H1 _ rv rep1 s1 r1 post1 => h2 sl S1 σ F1 R1 H1 (hs.mono s1 r1) rep1 _ (Post.bind post1 fun d2 S2 v2 F2 R2 H2 _ rv2 rep2 s2 r2 post2 => by
    have rv := rv.mono s2 r2
    cases d with
    | ref n => exact post2.elim
    | p q =>
      cases d2 with
      | ref n => cases q <;> exact post2.elim
      | p q2 =>
        cases q with
        | lst ps =>
          cases q2 with
          | lst qs =>
            obtain ⟨a, xs, rfl, g1, g2⟩ := (Vw.p (H := H2) (show Rp C.K F2 v (.lst ps) from rv)).lstE rep2.sub
            obtain ⟨b, ys, rfl, g3, g4⟩ := (Vw.p (H := H2) (show Rp C.K F2 v2 (.lst qs) from rv2)).lstE rep2.sub
            cases rv with
            | lst k1 k2 =>
              cases rv2 with
              | lst k3 k4 => exact ⟨_, _, _, _, rfl, .inl ⟨.inl (.inl (rep2.sub _ _ k1)), .inl (.inl (rep2.sub _ _ k3)), post2.okv (it_zip (.inl (.inl k1)) k2 (.inl (.inl k3)) k4) rep2⟩⟩
          | _ => exact post2.elim
        | tup ps =>
          cases q2 with
          | tup qs =>
            obtain ⟨a, xs, rfl, g1, g2⟩ := (Vw.p (H := H2) (show Rp C.K F2 v (.tup ps) from rv)).tupE
            obtain ⟨b, ys, rfl, g3, g4⟩ := (Vw.p (H := H2) (show Rp C.K F2 v2 (.tup qs) from rv2)).tupE
            exact ⟨_, _, _, _, rfl, .inr ⟨same_sqT rep2.sub g1, same_sqT rep2.sub g3, post2.okv (it_zipT g1 g2 g3 g4) rep2⟩⟩
          | _ => exact post2.elim
        | _ => exact post2.elim)))
end
end Z

namespace Z
open PySem PySem.Spec PyProof.Rows L2
/-! ### keys -/
section
variable {Pg : Program} {w : World} {K : Fr} {H : Hp} {h : Heap}
mutual
theorem nk_is (hok : HOk Pg w H h) (KX : K.K.In h) : ∀ (p : P) (v : V) (u : Value) (k : NestedKey), Rp K H v p → RelV v u → nkP p = some k → NestedIs h k u
  | .non, _, _, _, x, r, e => by cases x; cases r; cases e; exact .none
  | .int i, _, _, _, x, r, e => by cases x; obtain ⟨t, rfl⟩ := r; cases e; exact .int i t
  | .str z, _, _, _, x, r, e => by cases x; obtain ⟨t, rfl⟩ := r; cases e; exact .text z t
  | .tup ps, v, u, k, x, r, e => by
    have sq : ∃ a xs, v = .ref a ∧ SqT K.K H a xs ∧ RpAll K H xs ps := by
      cases x with
      | tup h1 h2 => exact ⟨_, _, rfl, .inl (.inl h1), h2⟩
      | tupW h1 h2 _ => exact ⟨_, _, rfl, h1, h2⟩
    obtain ⟨a, xs, rfl, h1, h2⟩ := sq
    cases (show u = _ from r)
    cases hk : nkAll ps with
    | none => simp only [nkP, hk] at e; cases e
    | some ks =>
      simp only [nkP, hk] at e; cases e
      obtain ⟨its, o, n, hv, e1, e2, e3⟩ := L2.sqT_at hok KX h1
      exact .tup e1 e2 e3 (by simpa using nk_all hok KX ps _ _ _ h2 hv hk)
  | .bl _, _, _, _, _, _, e => by cases e
  | .lst _, _, _, _, _, _, e => by cases e
  | .dic _ _ _, _, _, _, _, _, e => by cases e
  | .ins _ _ _, _, _, _, _, _, e => by cases e
  | .glo _, _, _, _, _, _, e => by cases e
  | .ty _, _, _, _, _, _, e => by cases e
  | .scr _, _, _, _, _, _, e => by cases e
  | .exv _ _ _, _, _, _, _, _, e => by cases e
theorem nk_all (hok : HOk Pg w H h) (KX : K.K.In h) : ∀ (ps : List P) (vs : List V) (us : List Value) (ks : List NestedKey), RpAll K H vs ps → Vals vs us → nkAll ps = some ks → NestedAll h ks us
  | [], _, _, _, x, r, e => by cases x; cases r; cases e; exact .nil
  | p :: ps, _, _, ks, x, r, e => by
    cases x with
    | cons x1 x2 =>
      cases r with
      | cons r1 r2 =>
        cases e1 : nkP p with
        | none => simp only [nkAll, e1] at e; cases e
        | some k =>
          cases e2 : nkAll ps with
          | none => simp only [nkAll, e1, e2] at e; cases e
          | some ks =>
            simp only [nkAll, e1, e2] at e; cases e
            exact .cons (nk_is hok KX p _ _ _ x1 r1 e1) (nk_all hok KX ps _ _ _ x2 r2 e2)
end
end
/-- the keys of a dict of tuples -/
structure KsOk (K : Fr) (F : Hp) (kvs : List (NestedKey × Addr × V)) (ks : List P) : Prop where
  rp : RpAll K F (kvs.map fun q => .ref q.2.1) ks
  nk : ks.map nkP = kvs.map (fun q => some q.1)
  dp : ∀ q ∈ kvs, q.1.depth ≤ 8
theorem KsOk.mono {K : Fr} {F F' : Hp} {kvs : List (NestedKey × Addr × V)} {ks : List P} (e : Same F F') (h : KsOk K F kvs ks) : KsOk K F' kvs ks := ⟨RpAll.mono e _ _ h.rp, h.nk, h.dp⟩
abbrev NKV : List (NestedKey × Addr × V) → List (NestedKey × Addr × Value) → Prop := Paired fun p q => p.1 = q.1 ∧ p.2.1 = q.2.1 ∧ RelV p.2.2 q.2.2
def lookN (kvs : List (NestedKey × Addr × V)) (k : NestedKey) : Option V := (kvs.find? fun q => decide (q.1 = k)).map (·.2.2)
theorem NKV.val {kvs : List (NestedKey × Addr × V)} {xs : List (NestedKey × Addr × Value)} (h : NKV kvs xs) (k : NestedKey) : RelO (lookN kvs k) ((atKey xs k).map (·.2)) := by
  induction h with
  | nil => exact trivial
  | @cons p q ps qs hq t ih =>
    obtain ⟨h1, h2, h3⟩ := hq
    unfold lookN atKey at ih ⊢
    by_cases e : p.1 = k
    · rw [List.find?_cons_of_pos (by simpa using e), List.find?_cons_of_pos (by rw [← h1]; simpa using e)]
      exact h3
    · rw [List.find?_cons_of_neg (by simpa using e), List.find?_cons_of_neg (by rw [← h1]; simpa using e)]
      exact ih
def putN (kvs : List (NestedKey × Addr × V)) (k : NestedKey) (b : Addr) (v : V) : List (NestedKey × Addr × V) :=
  if (kvs.any fun q => decide (q.1 = k)) = true then kvs.map (fun q => if q.1 = k then (q.1, q.2.1, v) else q) else kvs ++ [(k, b, v)]
theorem NKV.any {kvs : List (NestedKey × Addr × V)} {xs : List (NestedKey × Addr × Value)} (h : NKV kvs xs) (k : NestedKey) : (kvs.any fun q => decide (q.1 = k)) = (atKey xs k).isSome := by
  induction h with
  | nil => rfl
  | @cons p q ps qs hq t ih =>
    obtain ⟨h1, h2, h3⟩ := hq
    unfold atKey at ih ⊢
    by_cases e : p.1 = k
    · rw [List.any_cons, List.find?_cons_of_pos (by rw [← h1]; simpa using e), decide_eq_true e]; rfl
    · rw [List.any_cons, List.find?_cons_of_neg (by rw [← h1]; simpa using e), decide_eq_false e, Bool.false_or]; exact ih
theorem NKV.put {kvs : List (NestedKey × Addr × V)} {xs : List (NestedKey × Addr × Value)} (h : NKV kvs xs) (k : NestedKey) (b : Addr) {v : V} {u : Value} (r : RelV v u) : NKV (putN kvs k b v) (storedH xs k b u) := by
  have ha := h.any k
  unfold putN storedH
  rw [ha]
  cases hs : (atKey xs k).isSome with
  | true =>
    rw [if_pos rfl, if_pos rfl]
    clear ha hs
    induction h with
    | nil => exact .nil
    | @cons p q ps qs hq t ih =>
      obtain ⟨h1, h2, h3⟩ := hq
      refine .cons ?_ ih
      unfold putAt
      dsimp only
      by_cases e : p.1 = k
      · rw [if_pos e, if_pos (by rw [← h1]; exact e)]
        exact ⟨by first | exact h1 | (rw [← h1]), h2, r⟩
      · rw [if_neg e, if_neg (by rw [← h1]; exact e)]
        exact ⟨h1, h2, h3⟩
  | false =>
    rw [if_neg (by decide), if_neg (by decide)]
    exact h.snoc ⟨rfl, rfl, r⟩
theorem length_putN (kvs : List (NestedKey × Addr × V)) (k : NestedKey) (b : Addr) (v : V) : (putN kvs k b v).length ≤ kvs.length + 1 := by
  unfold putN
  split
  · rw [List.length_map]; omega
  · rw [List.length_append]; exact Nat.le_refl _
section
variable {X : Cx} {pins : List (Addr × Obj)} {σ : L2.St} {H : Hp} {s : Shared} {a b : Addr} {kvs : List (NestedKey × Addr × V)} {ks : List P} {A : Around} {E : Value → Shared → Prop}
theorem dn_ok (hok : HOk X.prog X.w H s.heap) (KX : X.K.In s.heap) (e : H a = some (dN X.prog X.w a kvs)) (hk : KsOk (frX X) H kvs ks) : kvs.length ≤ sizeLine ∧ (a == sysModules) = false ∧ ∃ xs, NKV kvs xs ∧ s.heap.DictOfH (nestedKind X.prog X.w) a xs := by
  obtain ⟨z, hd, xs, rel, o, es, ep, h1, h2, h3, h4, h5⟩ := (show ObjOk X.prog X.w H s.heap a (dN X.prog X.w a kvs) from hok a _ e).1
  refine ⟨z, hd, xs, rel, o, es, ep, h1, h2, h3, h4, ?_, h5⟩
  obtain ⟨r1, r2, r3⟩ := hk
  clear h1 h2 h3 h4 h5 z e hd
  induction rel generalizing ks with
  | nil => intro x hx; cases hx
  | @cons p q ps qs hq t ih =>
    obtain ⟨g1, g2, g3⟩ := hq
    cases ks with
    | nil => cases r1
    | cons k ks =>
      cases r1 with
      | cons r1 r1' =>
        simp only [List.map_cons, List.cons.injEq] at r2
        intro x hx
        rcases List.mem_cons.mp hx with rfl | hx
        · have := nk_is hok KX k _ (.ref p.2.1) _ r1 rfl r2.1
          refine ⟨?_, ?_⟩
          · rw [← g1, ← g2]; exact this
          · rw [← g1]; exact r3 p (List.mem_cons_self ..)
        · exact ih r1' r2.2 (fun q hq => r3 q (List.mem_cons_of_mem _ hq)) x hx
theorem key_at (hok : HOk X.prog X.w H s.heap) (KX : X.K.In s.heap) {p : P} {k : NestedKey} (hp : Rp (frX X) H (.ref b) p) (hk : nkP p = some k) (hd : k.depth ≤ 8) : (nestedKind X.prog X.w).is s.heap k b := ⟨nk_is hok KX p _ (.ref b) _ hp rfl hk, hd⟩
/-- what the dict at a holds at the key y: tuples -/
def GetN (K : Fr) (H : Hp) (a : Addr) (y : V) (r : Option V) : Prop := ∃ kvs ks b p k, H a = some (dN K.pg K.w a kvs) ∧ KsOk K H kvs ks ∧ y = .ref b ∧ Rp K H (.ref b) p ∧ nkP p = some k ∧ k.depth ≤ 8 ∧ r = lookN kvs k
def GetZ (K : Fr) (H : Hp) (a : Addr) (y : V) (r : Option V) : Prop := DGet H a y r ∨ GetN K H a y r
theorem n_getItem {y v : V} {u : Value} {Q : Value → Shared → Prop} (hu : A.units + 16 < cLine) (I : Inv X pins σ H s) (g : GetN (frX X) H a y (some v)) (ry : RelV y u) (h : ∀ w' s', Inv X pins σ H s' → RelV v w' → Q w' s') : wpAny (model X.prog X.w) A (getItem (.ref a) u) Q E s := by
  obtain ⟨kvs, ks, b, p, k, e, hk, rfl, hp, hn, hd, l⟩ := g
  cases (show u = Value.ref b from ry)
  obtain ⟨z, hd', xs, rel, dd⟩ := dn_ok I.hok I.kIn e hk
  obtain ⟨w', hw, rw'⟩ := RelO.some_of (v := v) (o := (atKey xs k).map (·.2)) (by rw [l]; exact rel.val k)
  obtain ⟨p', hp', hp2⟩ := Option.map_eq_some_iff.mp hw
  refine wpAny_getItem_heap (show A.in1.units + 8 < cLine by show A.units + 1 + 8 < cLine; omega) (key_at I.hok I.kIn hp hn hd) dd hp' ?_
  rw [hp2]
  exact h w' _ (I.tok _) rw'
theorem n_in {y : V} {o : Option V} {u : Value} {Q : Value → Shared → Prop} (hu : A.units + 16 < cLine) (I : Inv X pins σ H s) (g : GetN (frX X) H a y o) (ry : RelV y u) (h : ∀ s', Inv X pins σ H s' → Q (.bool o.isSome) s') : wpAny (model X.prog X.w) A (compareOp .In u (.ref a)) Q E s := by
  obtain ⟨kvs, ks, b, p, k, e, hk, rfl, hp, hn, hd, l⟩ := g
  cases (show u = Value.ref b from ry)
  obtain ⟨z, hd', xs, rel, dd⟩ := dn_ok I.hok I.kIn e hk
  refine wpAny_in_heap (show A.in1.units + 8 < cLine by show A.units + 1 + 8 < cLine; omega) (key_at I.hok I.kIn hp hn hd) hd' dd ?_
  have q := (rel.val k).isSome_eq
  rw [Option.isSome_map] at q
  rw [← q, ← l]
  exact h _ (I.tok _)
theorem n_notIn {y : V} {o : Option V} {u : Value} {Q : Value → Shared → Prop} (hu : A.units + 16 < cLine) (I : Inv X pins σ H s) (g : GetN (frX X) H a y o) (ry : RelV y u) (h : ∀ s', Inv X pins σ H s' → Q (.bool (!o.isSome)) s') : wpAny (model X.prog X.w) A (compareOp .NotIn u (.ref a)) Q E s := by
  obtain ⟨kvs, ks, b, p, k, e, hk, rfl, hp, hn, hd, l⟩ := g
  cases (show u = Value.ref b from ry)
  obtain ⟨z, hd', xs, rel, dd⟩ := dn_ok I.hok I.kIn e hk
  refine wpAny_notIn_heap (show A.in1.units + 8 < cLine by show A.units + 1 + 8 < cLine; omega) (key_at I.hok I.kIn hp hn hd) hd' dd ?_
  have q := (rel.val k).isSome_eq
  rw [Option.isSome_map] at q
  rw [← q, ← l]
  exact h _ (I.tok _)
/-- d[y] = v -/
theorem n_setItem {p : P} {k : NestedKey} {v : V} {r : Value} {Q : Unit → Shared → Prop} (hu : A.units + 16 < cLine) (I : Inv X pins σ H s) (e : H a = some (dN X.prog X.w a kvs)) (hk : KsOk (frX X) H kvs ks) (hp : Rp (frX X) H (.ref b) p) (hn : nkP p = some k) (hd : k.depth ≤ 8) (hl : kvs.length < sizeLine) (rv : RelV v r)
    (h : ∀ s', Inv X pins σ (upd H a (dN X.prog X.w a (putN kvs k b v))) s' → Q () s') : wpAny (model X.prog X.w) A (setItem (.ref a) (.ref b) r) Q E s := by
  obtain ⟨z, hd', xs, rel, dd⟩ := dn_ok I.hok I.kIn e hk
  have hz : xs.length ≤ sizeLine := by rw [← Paired.length rel]; exact z
  have hl' : (putN kvs k b v).length ≤ sizeLine := by have := length_putN kvs k b v; omega
  refine wpAny_setItem_heap (hsz := hz) (show A.in1.units + 8 < cLine by show A.units + 1 + 8 < cLine; omega) (key_at I.hok I.kIn hp hn hd) dd fun h' dd' hs => h _ ?_
  obtain ⟨q, es, ep, hq, h2, h3, h4, _, h5⟩ := dd'
  refine d_write I (by rw [e]; exact True.intro) hs ⟨q, hq⟩ ⟨⟨hl', hd', _, rel.put k b rv, q, es, ep, hq, h2, h3, h4, h5⟩, ⟨q, hq⟩, fun h1 h2 hx hy => ?_⟩
  obtain ⟨y1, y2, ys, y3, o, es', ep', y4, y5⟩ := hx
  exact ⟨y1, y2, ys, y3, o, es', ep', hy o y4, y5⟩
end
end Z

namespace Z
open PySem PySem.Spec PyProof.Rows L2
/-! ### dicts by keys -/
def keyOf : P → Option Key
  | .int i => some (.inl i)
  | .str z => some (.inr z)
  | _ => none
theorem keyOf_eq {p : P} {k : Key} (h : keyOf p = some k) : p = keyP k := by
  cases p <;> first | (cases h; rfl) | (cases h; done)
theorem keyP_inj {a b : Key} (h : keyP a = keyP b) : a = b := by
  cases a <;> cases b <;> first | (injection h with h; rw [h]) | (cases h)
def okKey (t : Bool) (p : P) : Bool := match t, p with
  | true, .tup ps => match nkP (.tup ps) with
    | some k => decide (k.depth ≤ 8)
    | none => false
  | true, _ => false
  | false, p => (keyOf p).isSome
mutual
theorem nkP_inj : ∀ (p q : P) (k : NestedKey), nkP p = some k → nkP q = some k → p = q
  | .non, q, k, h, h' => by
    cases h
    cases q <;> first | rfl | (cases h'; done) | skip
    rename_i ps
    cases hk : nkAll ps <;> simp only [nkP, hk] at h' <;> cases h'
  | .int i, q, k, h, h' => by
    cases h
    cases q <;> first | (cases h'; rfl) | (cases h'; done) | skip
    rename_i ps
    cases hk : nkAll ps <;> simp only [nkP, hk] at h' <;> cases h'
  | .str i, q, k, h, h' => by
    cases h
    cases q <;> first | (cases h'; rfl) | (cases h'; done) | skip
    rename_i ps
    cases hk : nkAll ps <;> simp only [nkP, hk] at h' <;> cases h'
  | .tup ps, q, k, h, h' => by
    cases hk : nkAll ps with
    | none => simp only [nkP, hk] at h; cases h
    | some ks =>
      simp only [nkP, hk] at h; cases h
      cases q <;> first | (cases h'; done) | skip
      rename_i qs
      cases hk' : nkAll qs with
      | none => simp only [nkP, hk'] at h'; cases h'
      | some ls =>
        simp only [nkP, hk'] at h'
        have e : ls = ks := by injection h' with h'; injection h'
        rw [nkAll_inj ps qs ks hk (by rw [hk', e])]
  | .bl _, _, _, h, _ => by cases h
  | .lst _, _, _, h, _ => by cases h
  | .dic _ _ _, _, _, h, _ => by cases h
  | .ins _ _ _, _, _, h, _ => by cases h
  | .glo _, _, _, h, _ => by cases h
  | .ty _, _, _, h, _ => by cases h
  | .scr _, _, _, h, _ => by cases h
  | .exv _ _ _, _, _, h, _ => by cases h
theorem nkAll_inj : ∀ (ps qs : List P) (ks : List NestedKey), nkAll ps = some ks → nkAll qs = some ks → ps = qs
  | [], qs, ks, h, h' => by
    cases h
    cases qs with
    | nil => rfl
    | cons q qs =>
      cases e1 : nkP q <;> cases e2 : nkAll qs <;> simp only [nkAll, e1, e2] at h' <;> cases h'
  | p :: ps, qs, ks, h, h' => by
    cases e1 : nkP p with
    | none => simp only [nkAll, e1] at h; cases h
    | some k =>
      cases e2 : nkAll ps with
      | none => simp only [nkAll, e1, e2] at h; cases h
      | some ls =>
        simp only [nkAll, e1, e2] at h; cases h
        cases qs with
        | nil => cases h'
        | cons q qs =>
          cases e3 : nkP q with
          | none => simp only [nkAll, e3] at h'; cases h'
          | some k' =>
            cases e4 : nkAll qs with
            | none => simp only [nkAll, e3, e4] at h'; cases h'
            | some ls' =>
              simp only [nkAll, e3, e4] at h'
              injection h' with h'
              injection h' with a1 a2
              rw [nkP_inj p q k e1 (by rw [e3, a1]), nkAll_inj ps qs ls e2 (by rw [e4, a2])]
end
def lookL {α : Type} : List P → List α → P → Option α
  | k :: ks, d :: ds, p => if k = p then some d else lookL ks ds p
  | _, _, _ => none
def putV {α : Type} (ks : List P) (ds : List α) (p : P) (x : α) : List α := if p ∈ ks then List.zipWith (fun k d => if k = p then x else d) ks ds else ds ++ [x]
def putKs (ks : List P) (p : P) : List P := if p ∈ ks then ks else ks ++ [p]
section
variable {K : Fr} {F H : Hp} {R : List Addr} {S : Store}
theorem lookK {key : Key} : ∀ {kvs : List (Key × V)} {ds : List D}, RelAll K F R (kvs.map (·.2)) ds → (match lookL (kvs.map fun q => keyP q.1) ds (keyP key) with
    | some d => ∃ v, valV kvs key = some v ∧ RelD K F R v d
    | none => valV kvs key = none)
  | [], _, h => by cases h; exact rfl
  | q :: kvs, _, h => by
    cases h with
    | @cons v d vs ds h1 h2 =>
      simp only [List.map_cons, lookL]
      by_cases e : q.1 = key
      · rw [if_pos (by rw [e])]
        exact ⟨_, valV_pos e, h1⟩
      · rw [if_neg (fun z => e (keyP_inj z)), valV_neg e]
        exact lookK h2
theorem lookN_of {k : NestedKey} {p : P} (hp : nkP p = some k) : ∀ {kvs : List (NestedKey × Addr × V)} {ks : List P} {ds : List D}, ks.map nkP = kvs.map (fun q => some q.1) → RelAll K F R (kvs.map (·.2.2)) ds → (match lookL ks ds p with
    | some d => ∃ v, lookN kvs k = some v ∧ RelD K F R v d
    | none => lookN kvs k = none)
  | [], [], _, _, h => by cases h; exact rfl
  | [], _ :: _, _, e, _ => by cases e
  | _ :: _, [], _, e, _ => by cases e
  | q :: kvs, k' :: ks, _, e, h => by
    cases h with
    | @cons v d vs ds h1 h2 =>
      simp only [List.map_cons, List.cons.injEq] at e
      simp only [lookL]
      unfold lookN
      by_cases e' : q.1 = k
      · rw [if_pos (nkP_inj _ _ _ (by rw [e.1, e']) hp), List.find?_cons_of_pos (by simpa using e')]
        exact ⟨_, rfl, h1⟩
      · rw [if_neg (fun z => e' (by rw [z, hp] at e; exact (Option.some.inj e.1).symm)), List.find?_cons_of_neg (by simpa using e')]
        exact lookN_of hp e.2 h2
/-- a dict's entries -/
def dicOf (S : Store) : D → Option (Bool × List P × List D)
  | .p (.dic t ks ps) => some (t, ks, ps.map .p)
  | .ref n => match S[n]? with
    | some (.dic t ks ds) => some (t, ks, ds)
    | _ => none
  | _ => none
theorem RelAll.pp {vs : List V} {ps : List P} (h : RpAll K F vs ps) : RelAll K F R vs (ps.map .p) := RelAll.of_p h
inductive DicAt (K : Fr) (F : Hp) (R : List Addr) (H : Hp) (a : Addr) : Bool → List P → List D → Prop
  | k {kvs : List (Key × V)} {ds : List D} : H a = some (.dK kvs) → RelAll K F R (kvs.map (·.2)) ds → DicAt K F R H a false (kvs.map fun q => keyP q.1) ds
  | n {kvs : List (NestedKey × Addr × V)} {ks : List P} {ds : List D} : H a = some (dN K.pg K.w a kvs) → KsOk K F kvs ks → RelAll K F R (kvs.map (·.2.2)) ds → DicAt K F R H a true ks ds
theorem dicOf_at {G : Hp} {v : V} {d : D} {t : Bool} {ks : List P} {ds : List D} (hv : RelD K F R v d) (rep : Rep K G F R S H) (e : dicOf S d = some (t, ks, ds)) : ∃ a, v = .ref a ∧ DicAt K F R H a t ks ds := by
  cases d with
  | p q =>
    cases q with
    | dic t' ks' ps =>
      cases e
      cases (show Rp K F v (.dic t ks ps) from hv) with
      | dicK h1 h2 h3 => subst h2; exact ⟨_, rfl, .k (rep.sub _ _ h1) (RelAll.of_p h3)⟩
      | dicN h1 h2 h3 h4 h5 => exact ⟨_, rfl, .n (rep.sub _ _ h1) ⟨h2, h3, h4⟩ (RelAll.of_p h5)⟩
    | _ => cases e
  | ref n =>
    cases hn : S[n]? with
    | none => simp only [dicOf, hn] at e; cases e
    | some c =>
      cases c with
      | dic t' ks' ds' =>
        simp only [dicOf, hn] at e; cases e
        obtain ⟨a, q, e1, ok, out⟩ := rep.at hn
        obtain ⟨a', e1', rfl⟩ := hv
        rw [e1] at e1'; cases e1'
        refine ⟨a, rfl, ?_⟩
        cases ok with
        | dicK hk hr => subst hk; exact .k (out a _ one_same).2 hr
        | dicN h1 h2 h3 hr => exact .n (out a _ one_same).2 ⟨h1, h2, h3⟩ hr
      | _ => simp only [dicOf, hn] at e; cases e
theorem okKey_k {p : P} (h : okKey false p = true) : ∃ k, keyOf p = some k := by
  cases hk : keyOf p with
  | none => simp only [okKey, hk] at h; cases h
  | some k => exact ⟨k, rfl⟩
theorem okKey_n {p : P} (h : okKey true p = true) : ∃ ps k, p = .tup ps ∧ nkP p = some k ∧ k.depth ≤ 8 := by
  cases p with
  | tup ps =>
    cases hk : nkP (.tup ps) with
    | none => simp only [okKey, hk] at h; cases h
    | some k => simp only [okKey, hk] at h; exact ⟨ps, k, rfl, rfl, of_decide_eq_true h⟩
  | _ => cases h
theorem vw_key {y : V} {k : Key} {p : P} (h : Vw K F H y p) (hk : keyOf p = some k) : y = kV k := by
  cases p <;> first | (cases hk; done) | skip
  · cases hk; exact h.int
  · cases hk; exact h.str
/-- what is found -/
theorem dic_get {a : Addr} {y : V} {t : Bool} {ks : List P} {ds : List D} {p : P} (h : DicAt K F R H a t ks ds) (s : Same F H) (hy : Vw K F H y p) (hk : okKey t p = true) : (match lookL ks ds p with
    | some d => ∃ v, GetZ K H a y (some v) ∧ RelD K F R v d
    | none => GetZ K H a y none) := by
  cases h with
  | @k kvs ds h1 h2 =>
    obtain ⟨key, hk⟩ := okKey_k hk
    have e := keyOf_eq hk
    have := lookK (key := key) h2
    rw [← e] at this
    have hy := vw_key hy hk
    subst hy
    cases hl : lookL (kvs.map fun q => keyP q.1) ds p with
    | none => rw [hl] at this; rw [← this]; exact .inl (DGet.k h1)
    | some d =>
      rw [hl] at this
      obtain ⟨v, e1, e2⟩ := this
      exact ⟨v, by rw [← e1]; exact .inl (DGet.k h1), e2⟩
  | @n kvs ks ds h1 h2 h3 =>
    obtain ⟨ps, k, rfl, hn, hd⟩ := okKey_n hk
    have := lookN_of hn h2.nk h3
    have rp := Rp.mono s _ _ hy.tupP
    obtain ⟨b, vs, rfl, _, _⟩ := hy.tupE
    cases hl : lookL ks ds (.tup ps) with
    | none => rw [hl] at this; exact .inr ⟨kvs, ks, b, _, k, h1, h2.mono s, rfl, rp, hn, hd, this.symm⟩
    | some d =>
      rw [hl] at this
      obtain ⟨v, e1, e2⟩ := this
      exact ⟨v, .inr ⟨kvs, ks, b, _, k, h1, h2.mono s, rfl, rp, hn, hd, e1.symm⟩, e2⟩
end
/-! ### d[k] -/
def rDix (K : Fr) : R2 := fun x y H Q => ∃ a v, x = .ref a ∧ GetZ K H a y (some v) ∧ Q v H
theorem getZ_type {X : Cx} {pins : List (Addr × Obj)} {σ : L2.St} {H : Hp} {s : Shared} {a : Addr} {y : V} {o : Option V} (I : Inv X pins σ H s) (g : GetZ (frX X) H a y o) : s.TypeIs (.ref a) "dict" := by
  rcases g with g | ⟨kvs, ks, b, p, k, e, hk, _⟩
  · exact dict_typeIs I g
  · obtain ⟨_, _, xs, _, dd⟩ := dn_ok I.hok I.kIn e hk
    exact dd.typeIs
theorem z_getItem {X : Cx} {pins : List (Addr × Obj)} {σ : L2.St} {H : Hp} {s : Shared} {a : Addr} {y v : V} {u : Value} {A : Around} {E : Value → Shared → Prop} {Q : Value → Shared → Prop} (hu : A.units + 16 < cLine) (I : Inv X pins σ H s) (g : GetZ (frX X) H a y (some v)) (ry : RelV y u) (h : ∀ w' s', Inv X pins σ H s' → RelV v w' → Q w' s') : wpAny (model X.prog X.w) A (getItem (.ref a) u) Q E s := by
  rcases g with g | g
  · exact d_getItem (by omega) I g ry h
  · exact n_getItem hu I g ry h
theorem ix_dict {X : Cx} (hu : X.A.units + 16 < cLine) : IxR X (rDix (frX X)) := by
  intro value slice pins s σ H x y v u Q I rx ry h hs
  obtain ⟨a, z, rfl, g, q⟩ := h
  cases rx
  have hT := getZ_type I g
  unfold subscriptTail
  refine wpAny_bind ?_
  rw [getitemInPython_of_ne hT.not_modules]
  refine wpAny_bind (wpAny_specialOf hT PySem.F.slot_dict_getitem.lookup ?_)
  have fin : wpAny (model X.prog X.w) X.A (subscripted slice false (.ref a) u) (fun r s₃ => wpAny (model X.prog X.w) X.A (letTemporaryGo value (.ref a) r >>= fun _ => pure r) (EP X pins σ Q) X.xe s₃) X.xe s := by
    rw [hs]
    exact wpAny_operating (z_getItem hu I g ry fun w' s3 I3 rw' => wpAny_bind (wpAny_letTemporaryGo (wpAny_pure ⟨z, H, I3, rw', q⟩)))
  first
    | exact wpAny_pure (wpAny_bind fin)
    | exact wpAny_bind (wpAny_pure (wpAny_bind fin))
    | exact wpAny_bind fin
def ixG (d k : D) (S : Store) : Rs D := match dicOf S d with
  | some (t, ks, ds) => match view S k with
    | some p => if okKey t p = true then match lookL ks ds p with
        | some r => .ok r S
        | none => .no
      else .no
    | none => .no
  | none => match d with
    | .ref n => match S[n]?, view S k with
      | some (.lst ds), some (.int i) => match atI ds i with
        | some r => .ok r S
        | none => .no
      | _, _ => .no
    | .p _ => lift2 ixP d k S
def eIx (m1 m2 : M) : M := fun sl S => (m1 sl S).bind fun d1 S1 => (m2 sl S1).bind fun d2 S2 => ixG d1 d2 S2
theorem atI_rel {K : Fr} {F : Hp} {R : List Addr} {ds : List D} {vs : List V} {k : Int} {d : D} (h : RelAll K F R vs ds) (e : atI ds k = some d) : ∃ v, atI vs k = some v ∧ RelD K F R v d := by
  unfold atI at e ⊢
  rw [h.length]
  cases hj : ixN ds.length k with
  | none => rw [hj] at e; cases e
  | some j =>
    rw [hj] at e
    obtain ⟨v, e1, e2⟩ := RelAll.get' (i := j) (d := d) h e
    exact ⟨v, e1, e2⟩
section
variable {C : Kx} {a b c e o tg : Expr} {es rest : List Expr} {pos p apos cpos : Pos} {x : Str} {m m1 m2 mo me : M} {ma : MA}
theorem ej_ixG (hu : C.X.A.units + 16 < cLine) (h1 : Ej C m1 a) (h2 : Ej C m2 b) (hs : PlainIx b := by exact fun _ _ => rfl) : Ej C (eIx m1 m2) (.Subscript a b pos) := .mk fun sl S σ F R H hs' hr Q post =>
  ED.of (pe_ix (IxR.or ix_z (ix_dict hu)) pe_d pe_d hs) (h1 sl S σ F R H hs' hr _ (Post.bind post fun d1 S1 x F1 R1 H1 _ rx rep1 s1 r1 post1 => h2 sl S1 σ F1 R1 H1 (hs'.mono s1 r1) rep1 _ (Post.bind post1 fun d2 S2 y F2 R2 H2 _ ry rep2 s2 r2 post2 => by
    have rx := rx.mono s2 r2
    unfold ixG at post2
    cases hd : dicOf S2 d1 with
    | some q =>
      obtain ⟨t, ks, ds⟩ := q
      simp only [hd] at post2
      cases hv : view S2 d2 with
      | none => simp only [hv] at post2; exact post2.elim
      | some kp =>
        simp only [hv] at post2
        by_cases hk : okKey t kp = true
        · rw [if_pos hk] at post2
          obtain ⟨a, rfl, at_⟩ := dicOf_at rx rep2 hd
          have := dic_get at_ rep2.sub (view_vw ry rep2 hv) hk
          cases hl : lookL ks ds kp with
          | none => simp only [hl] at post2; exact post2.elim
          | some r =>
            simp only [hl] at post2 this
            obtain ⟨v, g, rv⟩ := this
            exact .inr ⟨a, v, rfl, g, post2.okv rv rep2⟩
        · rw [if_neg hk] at post2; exact post2.elim
    | none =>
      simp only [hd] at post2
      cases d1 with
      | p q => exact .inl (lift2_post rfl bv_ix rx ry rep2 post2)
      | ref n =>
        cases hn : S2[n]? with
        | none => simp only [hn] at post2; exact post2.elim
        | some cl =>
          cases cl with
          | lst ds =>
            cases hv : view S2 d2 with
            | none => simp only [hn, hv] at post2; exact post2.elim
            | some kp =>
              cases kp with
              | int i =>
                simp only [hn, hv] at post2
                cases hi : atI ds i with
                | none => simp only [hi] at post2; exact post2.elim
                | some r =>
                  simp only [hi] at post2
                  obtain ⟨l, vs, e1, e2, hr4⟩ := rep2.lstAt hn
                  obtain ⟨l', e1', rfl⟩ := rx
                  rw [e1] at e1'; cases e1'
                  obtain ⟨v, e3, e4⟩ := atI_rel hr4 hi
                  exact .inl (.inl ⟨l, vs, i, v, rfl, (view_vw ry rep2 hv).int, .inl (.inl e2), e3, post2.okv e4 rep2⟩)
              | _ => simp only [hn, hv] at post2; exact post2.elim
          | _ => simp only [hn] at post2; exact post2.elim)))
/-! ### k in d -/
def inG (neg : Bool) (d1 d2 : D) (S : Store) : Rs D := match dicOf S d2 with
  | some (t, ks, ds) => match view S d1 with
    | some p => if okKey t p = true then .ok (.p (.bl (xor neg (lookL ks ds p).isSome))) S else .no
    | none => .no
  | none => lift2 (if neg then opNotIn else opIn) d1 d2 S
def eIn (neg : Bool) (m1 m2 : M) : M := fun sl S => (m1 sl S).bind fun d1 S1 => (m2 sl S1).bind fun d2 S2 => inG neg d1 d2 S2
def rDin (K : Fr) : R2 := fun x y H Q => ∃ a o, y = .ref a ∧ GetZ K H a x o ∧ Q (.bl o.isSome) H
def rDnin (K : Fr) : R2 := fun x y H Q => ∃ a o, y = .ref a ∧ GetZ K H a x o ∧ Q (.bl (!o.isSome)) H
theorem op_din {X : Cx} (hu : X.A.units + 16 < cLine) : OpR X (compareOp .In) (rDin (frX X)) := by
  intro pins s σ H x y v u Q I rx ry h
  obtain ⟨a, o, rfl, g, q⟩ := h
  cases (show u = Value.ref a from ry)
  rcases g with g | g
  · exact d_in (by omega) I g rx fun s' I' => ⟨.bl _, H, I', rfl, q⟩
  · exact n_in hu I g rx fun s' I' => ⟨.bl _, H, I', rfl, q⟩
theorem op_dnin {X : Cx} (hu : X.A.units + 16 < cLine) : OpR X (compareOp .NotIn) (rDnin (frX X)) := by
  intro pins s σ H x y v u Q I rx ry h
  obtain ⟨a, o, rfl, g, q⟩ := h
  cases (show u = Value.ref a from ry)
  rcases g with g | g
  · exact d_notIn (by omega) I g rx fun s' I' => ⟨.bl _, H, I', rfl, q⟩
  · exact n_notIn hu I g rx fun s' I' => ⟨.bl _, H, I', rfl, q⟩
theorem inG_post {σ : L2.St} {F H : Hp} {R : List Addr} {S : Store} {d1 d2 : D} {x y : V} {Q : VK} (rx : RelD C.K F R x d1) (ry : RelD C.K F R y d2) (rep : Rep C.K C.G F R S H) (post : Post C σ F R (RelD C.K) Q (inG false d1 d2 S)) : rInZ C.X.K x y H Q ∨ rDin C.K x y H Q := by
  unfold inG at post
  cases hd : dicOf S d2 with
  | none => simp only [hd] at post; exact .inl (lift2_post rfl bv_in rx ry rep post)
  | some q =>
    obtain ⟨t, ks, ds⟩ := q
    simp only [hd] at post
    cases hv : view S d1 with
    | none => simp only [hv] at post; exact post.elim
    | some kp =>
      simp only [hv] at post
      by_cases hk : okKey t kp = true
      · rw [if_pos hk] at post
        obtain ⟨a, rfl, at_⟩ := dicOf_at ry rep hd
        have := dic_get at_ rep.sub (view_vw rx rep hv) hk
        refine .inr ?_
        cases hl : lookL ks ds kp with
        | none =>
          simp only [hl] at post this
          exact ⟨a, none, rfl, this, post.okv (show RelD C.K F R (.bl false) (.p (.bl (xor false false))) from .bl _) rep⟩
        | some r =>
          simp only [hl] at post this
          obtain ⟨v, g, rv⟩ := this
          exact ⟨a, some v, rfl, g, post.okv (show RelD C.K F R (.bl true) (.p (.bl (xor false true))) from .bl _) rep⟩
      · rw [if_neg hk] at post; exact post.elim
theorem ninG_post {σ : L2.St} {F H : Hp} {R : List Addr} {S : Store} {d1 d2 : D} {x y : V} {Q : VK} (rx : RelD C.K F R x d1) (ry : RelD C.K F R y d2) (rep : Rep C.K C.G F R S H) (post : Post C σ F R (RelD C.K) Q (inG true d1 d2 S)) : rNotInZ C.X.K x y H Q ∨ rDnin C.K x y H Q := by
  unfold inG at post
  cases hd : dicOf S d2 with
  | none => simp only [hd] at post; exact .inl (lift2_post rfl bv_notin rx ry rep post)
  | some q =>
    obtain ⟨t, ks, ds⟩ := q
    simp only [hd] at post
    cases hv : view S d1 with
    | none => simp only [hv] at post; exact post.elim
    | some kp =>
      simp only [hv] at post
      by_cases hk : okKey t kp = true
      · rw [if_pos hk] at post
        obtain ⟨a, rfl, at_⟩ := dicOf_at ry rep hd
        have := dic_get at_ rep.sub (view_vw rx rep hv) hk
        refine .inr ?_
        cases hl : lookL ks ds kp with
        | none =>
          simp only [hl] at post this
          exact ⟨a, none, rfl, this, post.okv (show RelD C.K F R (.bl true) (.p (.bl (xor true false))) from .bl _) rep⟩
        | some r =>
          simp only [hl] at post this
          obtain ⟨v, g, rv⟩ := this
          exact ⟨a, some v, rfl, g, post.okv (show RelD C.K F R (.bl false) (.p (.bl (xor true true))) from .bl _) rep⟩
      · rw [if_neg hk] at post; exact post.elim
theorem ej_inG (hu : C.X.A.units + 65 < cLine) (h1 : Ej C m1 a) (h2 : Ej C m2 b) (hm : Mk .In b := by first | exact nomark _ | rfl) : Ej C (eIn false m1 m2) (.Compare a [.In] [b] pos) := .mk fun sl S σ F R H hs hr Q post =>
  ED.of (pe_cmpR (OpR.or (or_in hu) (op_din (by omega))) pe_d pe_d hm) (h1 sl S σ F R H hs hr _ (Post.bind post fun d1 S1 x F1 R1 H1 _ rx rep1 s1 r1 post1 => h2 sl S1 σ F1 R1 H1 (hs.mono s1 r1) rep1 _ (Post.bind post1 fun d2 S2 y F2 R2 H2 _ ry rep2 s2 r2 post2 => inG_post (rx.mono s2 r2) ry rep2 post2)))
theorem ej_ninG (hu : C.X.A.units + 65 < cLine) (h1 : Ej C m1 a) (h2 : Ej C m2 b) (hm : Mk .NotIn b := by first | exact nomark _ | rfl) : Ej C (eIn true m1 m2) (.Compare a [.NotIn] [b] pos) := .mk fun sl S σ F R H hs hr Q post =>
  ED.of (pe_cmpR (OpR.or (or_notin hu) (op_dnin (by omega))) pe_d pe_d hm) (h1 sl S σ F R H hs hr _ (Post.bind post fun d1 S1 x F1 R1 H1 _ rx rep1 s1 r1 post1 => h2 sl S1 σ F1 R1 H1 (hs.mono s1 r1) rep1 _ (Post.bind post1 fun d2 S2 y F2 R2 H2 _ ry rep2 s2 r2 post2 => ninG_post (rx.mono s2 r2) ry rep2 post2)))
def tIn (neg : Bool) (m1 m2 : M) : MT := fun sl S => (eIn neg m1 m2 sl S).bind asB
theorem tj_inG (hu : C.X.A.units + 65 < cLine) (h1 : Ej C m1 a) (h2 : Ej C m2 b) (hm : Mk .In b := by first | exact nomark _ | rfl) : Tj C (tIn false m1 m2) (.Compare a [.In] [b] pos) :=
  tj_of (pt_cmpR (OpR.or (or_in hu) (op_din (by omega))) pe_d pe_d hm) fun sl S σ F R H hs hr Q post => h1 sl S σ F R H hs hr _ (Post.bind post fun d1 S1 x F1 R1 H1 _ rx rep1 s1 r1 post1 => h2 sl S1 σ F1 R1 H1 (hs.mono s1 r1) rep1 _ (Post.bind post1 fun d2 S2 y F2 R2 H2 _ ry rep2 s2 r2 post2 => inG_post (rx.mono s2 r2) ry rep2 post2))
theorem tj_ninG (hu : C.X.A.units + 65 < cLine) (h1 : Ej C m1 a) (h2 : Ej C m2 b) (hm : Mk .NotIn b := by first | exact nomark _ | rfl) : Tj C (tIn true m1 m2) (.Compare a [.NotIn] [b] pos) :=
  tj_of (pt_cmpR (OpR.or (or_notin hu) (op_dnin (by omega))) pe_d pe_d hm) fun sl S σ F R H hs hr Q post => h1 sl S σ F R H hs hr _ (Post.bind post fun d1 S1 x F1 R1 H1 _ rx rep1 s1 r1 post1 => h2 sl S1 σ F1 R1 H1 (hs.mono s1 r1) rep1 _ (Post.bind post1 fun d2 S2 y F2 R2 H2 _ ry rep2 s2 r2 post2 => ninG_post (rx.mono s2 r2) ry rep2 post2))
end
end Z

namespace Z
open PySem PySem.Spec PyProof.Rows L2
section
variable {K : Fr} {F H : Hp} {R : List Addr} {S : Store}
theorem any_keyK {key : Key} : ∀ {kvs : List (Key × V)}, (kvs.any fun q => decide (q.1 = key)) = true ↔ keyP key ∈ kvs.map fun q => keyP q.1
  | [] => by simp
  | q :: kvs => by
    rw [List.any_cons, List.map_cons, List.mem_cons, Bool.or_eq_true, any_keyK, decide_eq_true_eq]
    exact ⟨fun h => h.imp (fun e => by rw [e]) id, fun h => h.imp (fun e => (keyP_inj e).symm) id⟩
theorem putK_keys {key : Key} {v : V} {kvs : List (Key × V)} : (putK kvs key v).map (fun q => keyP q.1) = putKs (kvs.map fun q => keyP q.1) (keyP key) := by
  unfold putK putKs
  by_cases h : (kvs.any fun q => decide (q.1 = key)) = true
  · rw [if_pos h, if_pos (any_keyK.mp h), List.map_map]
    refine List.map_congr_left fun q _ => ?_
    show keyP (if q.1 = key then (q.1, v) else q).1 = keyP q.1
    split <;> rfl
  · rw [if_neg h, if_neg (fun z => h (any_keyK.mpr z)), List.map_append]
    rfl
theorem putK_vals {key : Key} {v : V} {d : D} {kvs : List (Key × V)} {ds : List D} (hv : RelD K F R v d) (h : RelAll K F R (kvs.map (·.2)) ds) : RelAll K F R ((putK kvs key v).map (·.2)) (putV (kvs.map fun q => keyP q.1) ds (keyP key) d) := by
  unfold putK putV
  by_cases hc : (kvs.any fun q => decide (q.1 = key)) = true
  · rw [if_pos hc, if_pos (any_keyK.mp hc)]
    clear hc
    induction kvs generalizing ds with
    | nil => cases h; exact .nil
    | cons q kvs ih =>
      cases h with
      | @cons _ d' _ ds h1 h2 =>
        refine .cons ?_ (ih h2)
        dsimp only
        by_cases e : q.1 = key
        · rw [if_pos e, if_pos (by rw [e])]; exact hv
        · rw [if_neg e, if_neg (fun z => e (keyP_inj z))]; exact h1
  · rw [if_neg hc, if_neg (fun z => hc (any_keyK.mpr z)), List.map_append]
    exact h.append (.cons hv .nil)
theorem any_keyN {k : NestedKey} {p : P} (hp : nkP p = some k) : ∀ {kvs : List (NestedKey × Addr × V)} {ks : List P}, ks.map nkP = kvs.map (fun q => some q.1) → ((kvs.any fun q => decide (q.1 = k)) = true ↔ p ∈ ks)
  | [], [], _ => by simp
  | [], _ :: _, e => by cases e
  | _ :: _, [], e => by cases e
  | q :: kvs, k' :: ks, e => by
    simp only [List.map_cons, List.cons.injEq] at e
    rw [List.any_cons, List.mem_cons, Bool.or_eq_true, any_keyN hp e.2, decide_eq_true_eq]
    refine ⟨fun h => h.imp (fun z => ?_) id, fun h => h.imp (fun z => ?_) id⟩
    · exact nkP_inj _ _ _ hp (by rw [e.1, z])
    · rw [← z, hp] at e; exact (Option.some.inj e.1).symm
theorem putN_keys {k : NestedKey} {p : P} {b : Addr} {v : V} {kvs : List (NestedKey × Addr × V)} {ks : List P} (hp : nkP p = some k) (hd : k.depth ≤ 8) (hr : Rp K F (.ref b) p) (h : KsOk K F kvs ks) : KsOk K F (putN kvs k b v) (putKs ks p) := by
  unfold putN putKs
  by_cases hc : (kvs.any fun q => decide (q.1 = k)) = true
  · rw [if_pos hc, if_pos ((any_keyN hp h.nk).mp hc)]
    have e1 : ∀ q : NestedKey × Addr × V, (if q.1 = k then (q.1, q.2.1, v) else q).1 = q.1 := fun q => by split <;> rfl
    have e2 : ∀ q : NestedKey × Addr × V, (if q.1 = k then (q.1, q.2.1, v) else q).2.1 = q.2.1 := fun q => by split <;> rfl
    refine ⟨?_, ?_, fun q hq => ?_⟩
    · rw [List.map_map]
      have : (fun q : NestedKey × Addr × V => V.ref q.2.1) ∘ (fun q => if q.1 = k then (q.1, q.2.1, v) else q) = fun q => V.ref q.2.1 := by funext q; show V.ref _ = _; rw [e2]
      rw [this]; exact h.rp
    · rw [List.map_map]
      have : (fun q : NestedKey × Addr × V => some q.1) ∘ (fun q => if q.1 = k then (q.1, q.2.1, v) else q) = fun q => some q.1 := by funext q; show some _ = _; rw [e1]
      rw [this]; exact h.nk
    · obtain ⟨q', hq', rfl⟩ := List.mem_map.mp hq
      rw [e1]; exact h.dp q' hq'
  · rw [if_neg hc, if_neg (fun z => hc ((any_keyN hp h.nk).mpr z))]
    refine ⟨?_, ?_, fun q hq => ?_⟩
    · rw [List.map_append]; exact h.rp.append (.cons hr .nil)
    · rw [List.map_append, List.map_append, h.nk]; simp [hp]
    · rcases List.mem_append.mp hq with hq | hq
      · exact h.dp q hq
      · simp at hq; subst hq; exact hd
theorem putN_vals {k : NestedKey} {p : P} {b : Addr} {v : V} {d : D} (hp : nkP p = some k) (hv : RelD K F R v d) : ∀ {kvs : List (NestedKey × Addr × V)} {ks : List P} {ds : List D}, ks.map nkP = kvs.map (fun q => some q.1) → RelAll K F R (kvs.map (·.2.2)) ds → RelAll K F R ((putN kvs k b v).map (·.2.2)) (putV ks ds p d) := by
  intro kvs ks ds hn h
  unfold putN putV
  by_cases hc : (kvs.any fun q => decide (q.1 = k)) = true
  · rw [if_pos hc, if_pos ((any_keyN hp hn).mp hc)]
    clear hc
    induction kvs generalizing ds ks with
    | nil =>
      cases h
      cases ks with
      | nil => exact .nil
      | cons => cases hn
    | cons q kvs ih =>
      cases ks with
      | nil => cases hn
      | cons k' ks =>
        simp only [List.map_cons, List.cons.injEq] at hn
        cases h with
        | @cons _ d' _ ds h1 h2 =>
          refine .cons ?_ (ih hn.2 h2)
          dsimp only
          by_cases e : q.1 = k
          · rw [if_pos e, if_pos (nkP_inj _ _ _ (by rw [hn.1, e]) hp)]; exact hv
          · rw [if_neg e, if_neg (fun z => e (by rw [z, hp] at hn; exact (Option.some.inj hn.1).symm))]; exact h1
  · rw [if_neg hc, if_neg (fun z => hc ((any_keyN hp hn).mpr z)), List.map_append]
    exact h.append (.cons hv .nil)
/-- a live dict changed -/
theorem Rep.dicSet {G : Hp} {n : Nat} {t : Bool} {ks ks' : List P} {ds ds' : List D} {a : Addr} {o : HO} (h : Rep K G F R S H) (e : S[n]? = some (.dic t ks ds)) (ea : R[n]? = some a) (hc : CellOk K F R a (one a o) (.dic t ks' ds')) : Rep K G F R (S.set n (.dic t ks' ds')) (upd H a o) :=
  h.mut (q' := id) e ea fun q ok _ => by
    have key : ∀ o', upd (one a o') a o = one a o := fun o' => by
      funext b
      unfold upd one
      by_cases hb : b = a
      · rw [if_pos hb, if_pos hb]
      · rw [if_neg hb, if_neg hb, if_neg hb]
    cases ok with
    | dicK hk hr => exact ⟨by rw [one_same]; exact fun z => (nomatch z), by rw [key]; exact hc⟩
    | dicN h1 h2 h3 hr => exact ⟨by rw [one_same]; exact fun z => (nomatch z), by rw [key]; exact hc⟩
end
/-! ### d[k] = v -/
def rSetD (K : Fr) : TSet := fun o i v H Q => (∃ a kvs k, o = .ref a ∧ i = kV k ∧ H a = some (.dK kvs) ∧ kvs.length < sizeLine ∧ Q (upd H a (.dK (putK kvs k v)))) ∨
  ∃ a kvs ks b p k, o = .ref a ∧ i = .ref b ∧ H a = some (dN K.pg K.w a kvs) ∧ KsOk K H kvs ks ∧ Rp K H (.ref b) p ∧ nkP p = some k ∧ k.depth ≤ 8 ∧ kvs.length < sizeLine ∧ Q (upd H a (dN K.pg K.w a (putN kvs k b v)))
theorem set_dict {X : Cx} (hu : X.A.units + 16 < cLine) : PSet X (rSetD (frX X)) := by
  intro pins s σ H o i v ov iv u Q I ro ri rv h
  rcases h with ⟨a, kvs, k, rfl, rfl, e, hl, q⟩ | ⟨a, kvs, ks, b, p, k, rfl, rfl, e, hk, hp, hn, hd, hl, q⟩
  · cases ro
    exact d_setItem (by omega) I (DPut.k e hl) ri rv fun s' I' => ⟨_, I', q⟩
  · cases ro
    cases ri
    exact n_setItem hu I e hk hp hn hd hl rv fun s' I' => ⟨_, I', q⟩
theorem PSet.or {X : Cx} {t1 t2 : TSet} (h1 : PSet X t1) (h2 : PSet X t2) : PSet X (fun o i v H Q => t1 o i v H Q ∨ t2 o i v H Q) := by
  intro pins s σ H o i v ov iv u Q I ro ri rv h
  rcases h with h | h
  · exact h1 pins s σ H o i v ov iv u Q I ro ri rv h
  · exact h2 pins s σ H o i v ov iv u Q I ro ri rv h
/-- the store behind d[k] = v -/
def putG (S : Store) (n : Nat) (k v : D) : Option Store := match S[n]? with
  | some (.lst ds) => match view S k with
    | some (.int i) => match ixN ds.length i with
      | some j => some (S.set n (.lst (ds.set j v)))
      | none => none
    | _ => none
  | some (.dic t ks ds) => match view S k with
    | some p => if okKey t p = true ∧ ks.length < sizeLine then some (S.set n (.dic t (putKs ks p) (putV ks ds p v))) else none
    | none => none
  | _ => none
section
variable {C : Kx} {a b c e o tg : Expr} {es rest : List Expr} {pos p apos cpos : Pos} {x : Str} {m m1 m2 mo me mi : M} {ma : MA}
theorem keys_len {kvs : List (Key × V)} : (kvs.map fun q => keyP q.1).length = kvs.length := List.length_map ..
theorem KsOk.len {K : Fr} {F : Hp} {kvs : List (NestedKey × Addr × V)} {ks : List P} (h : KsOk K F kvs ks) : ks.length = kvs.length := by
  have := congrArg List.length h.nk
  rw [List.length_map, List.length_map] at this; exact this
theorem putG_post {F H : Hp} {R : List Addr} {S S' : Store} {n : Nat} {k v : D} {x y : V} {l : Addr} {Q : Hp → Prop} (el : R[n]? = some l) (ry : RelD C.K F R y k) (rx : RelD C.K F R x v) (rep : Rep C.K C.G F R S H) (e : putG S n k v = some S')
    (q : ∀ H', Rep C.K C.G F R S' H' → Q H') : rSetL (.ref l) y x H Q ∨ rSetD C.K (.ref l) y x H Q := by
  unfold putG at e
  cases hn : S[n]? with
  | none => simp only [hn] at e; cases e
  | some cl =>
    cases cl with
    | lst ds =>
      simp only [hn] at e
      cases hv : view S k with
      | none => simp only [hv] at e; cases e
      | some kp =>
        cases kp with
        | int i =>
          simp only [hv] at e
          cases hj : ixN ds.length i with
          | none => simp only [hj] at e; cases e
          | some j =>
            simp only [hj] at e; cases e
            obtain ⟨l', vs, e1, e2, hr4⟩ := rep.lstAt hn
            rw [el] at e1; cases e1
            exact .inl ⟨l, vs, i, j, rfl, (view_vw ry rep hv).int, e2, by rw [hr4.length]; exact hj, q _ (rep.lstSet hn el (RelAll.set rx j hr4))⟩
        | _ => simp only [hv] at e; cases e
    | dic t ks ds =>
      simp only [hn] at e
      cases hv : view S k with
      | none => simp only [hv] at e; cases e
      | some kp =>
        simp only [hv] at e
        obtain ⟨⟨hk, hl⟩, rfl⟩ := if_some e
        refine .inr ?_
        have hy := view_vw ry rep hv
        obtain ⟨a', q', e1, ok, out⟩ := rep.at hn
        rw [el] at e1; cases e1
        cases ok with
        | @dicK kvs _ _ hks hr =>
          obtain ⟨key, hk⟩ := okKey_k hk
          have ek := keyOf_eq hk
          subst ek
          subst hks
          refine .inl ⟨l, kvs, key, rfl, vw_key hy hk, (out l _ one_same).2, by rw [keys_len] at hl; exact hl, q _ ?_⟩
          exact rep.dicSet hn el (by rw [← putK_keys (v := x)]; exact .dicK rfl (putK_vals rx hr))
        | @dicN kvs _ _ h1 h2 h3 hr =>
          obtain ⟨ps, key, rfl, hnk, hd⟩ := okKey_n hk
          have rp := hy.tupP
          obtain ⟨b, vs, rfl, _, _⟩ := hy.tupE
          have ksok : KsOk C.K F kvs ks := ⟨h1, h2, h3⟩
          refine .inr ⟨l, kvs, ks, b, _, key, rfl, rfl, (out l _ one_same).2, ksok.mono rep.sub, Rp.mono rep.sub _ _ rp, hnk, hd, by rw [← ksok.len]; exact hl, q _ ?_⟩
          have k' := putN_keys (v := x) hnk hd rp ksok
          exact rep.dicSet hn el (.dicN k'.rp k'.nk k'.dp (putN_vals hnk rx h2 hr))
    | _ => simp only [hn] at e; cases e
def sPut (mo mi me : M) : MS := fun sl S => (me sl S).st sl fun v S1 => (mo sl S1).st sl fun d S2 => (mi sl S2).st sl fun i S3 => match d with
  | .ref n => match putG S3 n i v with
    | some S4 => .nx sl S4
    | none => .no
  | _ => .no
theorem sj_put (hu : C.X.A.units + 16 < cLine) (h0 : Ej C me e) (h1 : Ej C mo o) (h2 : Ej C mi a) (ha : ∀ v, assign (.Subscript o a apos) C.X.env v = (do
      let ov ← holding [v] (eval o C.X.env)
      let iv ← holding [v, ov] (eval a C.X.env)
      standAt apos
      holding [v, ov, iv] (setItem ov iv v)
      release [v, ov, iv] []) := by intro _; rfl) (hs' : swapsWithSole [.Subscript o a apos] e pos.line C.X.env = pure false := by rfl) (hw : swappedStores [.Subscript o a apos] e C.X.env = pure none := by rfl)
    (h1' : (assignEach [.Subscript o a apos] C.X.env).map (·.2) = [assign (.Subscript o a apos) C.X.env] := by rfl) : Sj1 C (sPut mo mi me) (.Assign [.Subscript o a apos] e pos) := .mk fun sl S σ F R H hs hr D post =>
  SD1.of (ps_asg pe_d (pg_sub pe_d pe_d (PSet.or set_list (set_dict hu)) ha) hs' hw h1') (h0 sl S σ F R H hs hr _ (PostS.bind post hs fun v S1 x F1 R1 H1 _ rx rep1 s1 r1 hs1 post1 => h1 sl S1 σ F1 R1 H1 hs1 rep1 _ (PostS.bind post1 hs1 fun d S2 y F2 R2 H2 _ ry rep2 s2 r2 hs2 post2 => h2 sl S2 σ F2 R2 H2 hs2 rep2 _ (PostS.bind post2 hs2 fun i S3 z F3 R3 H3 _ rz rep3 s3 r3 hs3 post3 => by
    cases d with
    | p q => exact post3.elim
    | ref n =>
      cases hp : putG S3 n i v with
      | none => simp only [hp] at post3; exact post3.elim
      | some S4 =>
        simp only [hp] at post3
        obtain ⟨l, el, rfl⟩ := ry.mono s3 r3
        exact putG_post el rz ((rx.mono s2 r2).mono s3 r3) rep3 hp fun H' rep' => post3 σ F3 R3 H' hs3 rep' (Same.refl _) pre_refl))))
/-! ### {} -/
def eDN (t : Bool) : M := fun _ S => .ok (.ref S.length) (S ++ [.dic t [] []])
theorem ej_dnewK : Ej C (eDN false) (.Dict [] [] pos) := .mk fun sl S σ F R H hs hr Q post =>
  ED.of pe_dnewK fun l hn => post _ F (R ++ [l]) _ (show RelD C.K _ _ _ (.ref S.length) from ⟨l, last_get hr.len, rfl⟩) (hr.push1 hn (.dicK (kvs := []) rfl .nil)) (Same.refl _) pre_app
def tDNewN (X : Cx) : TE := fun _ H Q => ∀ p, H p = none → Q (.ref p) (upd H p (dN X.prog X.w p []))
theorem pe_dnewN {X : Cx} : PE X (.Dict [] [] pos) (tDNewN X) := ⟨fun pins s σ H Q I h =>
  wpAny_Dict_empty ⟨.ref s.heap.objs.size, _, I.laid (a := s.heap.objs.size) (o := dN X.prog X.w s.heap.objs.size []) (t' := s.toks) (fun _ _ q => Heap.get?_push_of_some _ q) (Nat.le_refl _)
    ⟨⟨Nat.zero_le _, beq_eq_false_iff_ne.mpr (Ne.symm (Nat.ne_of_lt I.big)), [], .nil, _, #[], 0, Heap.get?_push_size _ rfl, ⟨rfl, rfl, rfl⟩, rfl, rfl, List.nodup_nil⟩, ⟨_, Heap.get?_push_size _ rfl⟩, fun h1 h2 hx hy => by
      obtain ⟨y1, y2, ys, y3, o, es', ep', y4, y5⟩ := hx
      exact ⟨y1, y2, ys, y3, o, es', ep', hy o y4, y5⟩⟩, rfl, h _ (I.hok.fresh (Nat.le_refl _))⟩⟩
theorem ej_dnewN : Ej C (eDN true) (.Dict [] [] pos) := .mk fun sl S σ F R H hs hr Q post =>
  ED.of pe_dnewN fun l hn => post _ F (R ++ [l]) _ (show RelD C.K _ _ _ (.ref S.length) from ⟨l, last_get hr.len, rfl⟩) (hr.push1 hn (.dicN (kvs := []) .nil rfl (fun _ h => nomatch h) .nil)) (Same.refl _) pre_app
end
end Z

namespace Z
open PySem PySem.Spec PyProof.Rows L2
/-! ### attributes -/
def lookF {α : Type} : List Str → List α → Str → Option α
  | k :: ks, d :: ds, f => if k = f then some d else lookF ks ds f
  | _, _, _ => none
def putFk (f : Str) : List Str → List Str
  | [] => [f]
  | k :: ks => if k = f then k :: ks else k :: putFk f ks
def putFv {α : Type} (f : Str) (x : α) : List Str → List α → List α
  | k :: ks, d :: ds => if k = f then x :: ds else d :: putFv f x ks ds
  | _, _ => [x]
/-- an instance's class and attributes -/
def insOf (S : Store) : D → Option (Str × List Str × List D)
  | .p (.ins c ks ps) => some (c, ks, ps.map .p)
  | .ref n => match S[n]? with
    | some (.ins c ks ds) => some (c, ks, ds)
    | _ => none
  | _ => none
section
variable {K : Fr} {F H : Hp} {R : List Addr} {S : Store}
theorem insOf_at {G : Hp} {v : V} {d : D} {c : Str} {ks : List Str} {ds : List D} (hv : RelD K F R v d) (rep : Rep K G F R S H) (e : insOf S d = some (c, ks, ds)) : ∃ a dx fs, v = .ref a ∧ H a = some (.ins (He.ga K.K c) dx fs) ∧ ks = fs.map (·.1) ∧ RelAll K F R (fs.map (·.2)) ds := by
  cases d with
  | p q =>
    cases q with
    | ins c' ks' ps =>
      cases e
      cases (show Rp K F v (.ins c ks ps) from hv) with
      | ins h1 h2 h3 h4 => exact ⟨_, _, _, rfl, rep.sub _ _ h1, h3, RelAll.of_p h4⟩
    | _ => cases e
  | ref n =>
    cases hn : S[n]? with
    | none => simp only [insOf, hn] at e; cases e
    | some cl =>
      cases cl with
      | ins c' ks' ds' =>
        simp only [insOf, hn] at e; cases e
        obtain ⟨a, q, e1, ok, out⟩ := rep.at hn
        obtain ⟨a', e1', rfl⟩ := hv
        rw [e1] at e1'; cases e1'
        cases ok with
        | @ins dx _ fs _ _ hd hk hr => exact ⟨a, dx, fs, rfl, (out a _ two_fst).2, hk, hr⟩
      | _ => simp only [insOf, hn] at e; cases e
theorem lookF_at {f : Str} : ∀ {fs : List (Str × V)} {ds : List D}, RelAll K F R (fs.map (·.2)) ds → (match lookF (fs.map (·.1)) ds f with
    | some d => ∃ v, fs.lookup f = some v ∧ RelD K F R v d
    | none => fs.lookup f = none)
  | [], _, h => by cases h; exact rfl
  | q :: fs, _, h => by
    cases h with
    | @cons v d vs ds h1 h2 =>
      obtain ⟨k, u⟩ := q
      simp only [List.map_cons, lookF]
      by_cases e : k = f
      · rw [if_pos e]
        exact ⟨u, by rw [List.lookup_cons, show (f == k) = true by simp [e]], h1⟩
      · rw [if_neg e]
        have : List.lookup f ((k, u) :: fs) = List.lookup f fs := by rw [List.lookup_cons, show (f == k) = false by simp; exact fun z => e z.symm]
        rw [this]
        exact lookF_at h2
theorem putF_keys {f : Str} {v : V} : ∀ fs : List (Str × V), (putF f v fs).map (·.1) = putFk f (fs.map (·.1))
  | [] => rfl
  | (k, u) :: fs => by
    simp only [putF, List.map_cons, putFk]
    by_cases e : k = f
    · rw [if_pos e, if_pos e]; rfl
    · rw [if_neg e, if_neg e, List.map_cons, putF_keys fs]
theorem putF_vals {f : Str} {v : V} {d : D} (hv : RelD K F R v d) : ∀ {fs : List (Str × V)} {ds : List D}, RelAll K F R (fs.map (·.2)) ds → RelAll K F R ((putF f v fs).map (·.2)) (putFv f d (fs.map (·.1)) ds)
  | [], _, h => by cases h; exact .cons hv .nil
  | (k, u) :: fs, _, h => by
    cases h with
    | @cons _ d' _ ds h1 h2 =>
      simp only [putF, List.map_cons, putFv]
      by_cases e : k = f
      · rw [if_pos e, if_pos e]; exact .cons hv h2
      · rw [if_neg e, if_neg e]; exact .cons h1 (putF_vals hv h2)
end
/-- what is known of the attribute f of the classes cs -/
def FldOk (K : PySem.W.Frag) (cs : List Str) (f : Str) : Prop := ∀ c ∈ cs, Cls K (He.ga K c) ∧ NoAttr K (He.ga K c) f
def fldG (cs : List Str) (f : Str) (S : Store) (d : D) : Rs D := match insOf S d with
  | some (c, ks, ds) => if c ∈ cs then match lookF ks ds f with
      | some r => .ok r S
      | none => .no
    else .no
  | none => .no
def eFld (cs : List Str) (f : Str) (m : M) : M := fun sl S => (m sl S).bind fun d S1 => fldG cs f S1 d
section
variable {C : Kx} {a b c e o tg : Expr} {es rest : List Expr} {pos pos' p apos cpos : Pos} {x f : Str} {m m1 m2 mo me mi : M} {ma : MA} {cs : List Str}
theorem ej_fld (hf : FldOk C.X.K cs f) (h : Ej C m o) (hb : Bs C o f := by rfl) : Ej C (eFld cs f m) (.Attribute o f pos) := .mk fun sl S σ F R H hs hr Q post =>
  ED.of (pe_fld pe_d hb) (h sl S σ F R H hs hr _ (Post.bind post fun d S1 x F1 R1 H1 _ rx rep1 s1 r1 post1 => by
    unfold fldG at post1
    cases hi : insOf S1 d with
    | none => simp only [hi] at post1; exact post1.elim
    | some q =>
      obtain ⟨c, ks, ds⟩ := q
      simp only [hi] at post1
      by_cases hc : c ∈ cs
      · rw [if_pos hc] at post1
        obtain ⟨a, dx, fs, rfl, ea, rfl, hv⟩ := insOf_at rx rep1 hi
        have := lookF_at (f := f) hv
        cases hl : lookF (fs.map (·.1)) ds f with
        | none => simp only [hl] at post1; exact post1.elim
        | some r =>
          simp only [hl] at post1 this
          obtain ⟨v, e1, e2⟩ := this
          exact ⟨a, _, dx, fs, v, rfl, ea, (hf c hc).1, (hf c hc).2, e1, post1.okv e2 rep1⟩
      · rw [if_neg hc] at post1; exact post1.elim))
/-! self.f = e -/
def sFldS (cs : List Str) (f : Str) (mo me : M) : MS := fun sl S => (me sl S).st sl fun v S1 => (mo sl S1).st sl fun d S2 => match d with
  | .ref n => match S2[n]? with
    | some (.ins c ks ds) => if c ∈ cs ∧ ks.length < 1000 then .nx sl (S2.set n (.ins c (putFk f ks) (putFv f v ks ds))) else .no
    | _ => .no
  | _ => .no
theorem sj_fld (hf : FldOk C.X.K cs f) (h0 : Ej C me e) (h1 : Ej C mo o) (hs' : swapsWith e (some (.Attribute o f pos')) pos.line C.X.env = pure false := by rfl) : Sj1 C (sFldS cs f mo me) (.Assign [.Attribute o f pos'] e pos) := .mk fun sl S σ F R H hs hr D post =>
  SD1.of (ps_fld pe_d pe_d hs') (h0 sl S σ F R H hs hr _ (PostS.bind post hs fun v S1 x F1 R1 H1 _ rx rep1 s1 r1 hs1 post1 => h1 sl S1 σ F1 R1 H1 hs1 rep1 _ (PostS.bind post1 hs1 fun d S2 y F2 R2 H2 _ ry rep2 s2 r2 hs2 post2 => by
    cases d with
    | p q => exact post2.elim
    | ref n =>
      cases hn : S2[n]? with
      | none => simp only [hn] at post2; exact post2.elim
      | some cl =>
        cases cl with
        | ins c ks ds =>
          simp only [hn] at post2
          by_cases hc : c ∈ cs ∧ ks.length < 1000
          · rw [if_pos hc] at post2
            obtain ⟨a, q, e1, ok, out⟩ := rep2.at hn
            obtain ⟨a', e1', rfl⟩ := ry
            rw [e1] at e1'; cases e1'
            cases ok with
            | @ins dx _ fs _ _ hd hk hr' =>
              subst hk
              refine ⟨a, _, dx, fs, rfl, (out a _ two_fst).2, (hf c hc.1).1, (hf c hc.1).2, by have := hc.2; rw [List.length_map] at this; exact this, ?_⟩
              have ha := (out a _ two_fst).2
              clear out
              refine post2 σ F2 R2 _ hs2 (rep2.mut (q' := id) hn e1 fun q ok hq => ?_) (Same.refl _) pre_refl
              cases ok with
              | @ins dx' _ fs' _ _ hd' hk' hr2 =>
                have e2 := hq a _ two_fst
                rw [ha] at e2
                cases e2
                refine ⟨by rw [two_fst]; exact fun z => (nomatch z), ?_⟩
                have e3 : upd (two a (.ins (He.ga C.X.K c) dx fs) dx (.own a)) a (.ins (He.ga C.X.K c) dx (putF f x fs)) = two a (.ins (He.ga C.X.K c) dx (putF f x fs)) dx (.own a) := by
                  funext b
                  unfold upd two
                  by_cases hb : b = a
                  · rw [if_pos hb, if_pos hb]
                  · rw [if_neg hb, if_neg hb, if_neg hb]
                rw [e3]
                exact .ins hd (putF_keys fs).symm (putF_vals (rx.mono s2 r2) hr2)
          · rw [if_neg hc] at post2; exact post2.elim
        | _ => simp only [hn] at post2; exact post2.elim)))
end
end Z

namespace Z
open PySem PySem.Spec PyProof.Rows L2
/-! ### calls: n written values, the defaults dfl fill up -/
def Form (P : Program) (w : World) (K : PySem.W.Frag) (mg : Str → Option Value) (base : Heap) (k : Nat) (f : Addr) (fn : Fn) (n : Nat) (dfl : List Z.P) : Prop :=
  ∃ fd ps ds dvs, FnOk P w K mg base (L2.CX P w) k f fd ps (spF ⟨K, P, w⟩ (n + dfl.length) fn) ∧ Binds K fd ps ds ∧ Vals dvs ds ∧ ∀ F, RpAll ⟨K, P, w⟩ F dvs dfl
abbrev Kx.form (C : Kx) (k : Nat) (f : Addr) (fn : Fn) (n : Nat) (dfl : List P) : Prop := Form C.X.prog C.X.w C.X.K C.X.mg C.X.base k f fn n dfl
theorem Form.mono {Pg : Program} {w : World} {K : PySem.W.Frag} {mg : Str → Option Value} {base : Heap} {k j : Nat} {f : Addr} {fn : Fn} {n : Nat} {dfl : List P} (h : Form Pg w K mg base k f fn n dfl) (hj : k ≤ j) : Form Pg w K mg base j f fn n dfl := by
  obtain ⟨fd, ps, ds, dvs, h1, h2⟩ := h
  exact ⟨fd, ps, ds, dvs, h1.mono hj, h2⟩
section
variable {X : Cx} {CX : CXT} {k : Nat} {f C : Addr} {fd : FuncData} {ps : List Str} {sp : Sp} {dvs : List V} {ds : List Value} {E : L2.St → XK} {x m : Str} {p pos apos : Pos} {e o : Expr} {es : List Expr} {ta : TE} {t : TA}
def tMethS (C : Addr) (m : Str) (sp : Sp) (dvs : List V) (E : L2.St → XK) (ta : TE) (t : TA) : TE := fun σ H Q => ta σ H fun x H1 => ∃ a dx fs, x = .ref a ∧ H1 a = some (.ins C dx fs) ∧ fs.lookup m = none ∧ t σ H1 fun vs H2 => sp (x :: (vs ++ dvs)) H2 Q (E σ)
theorem pe_methZ {pl : Sem Bool} (he : PE X o ta) (c : Cls X.K C) (hm : Meth X.K C m f) (F : FnOk X.prog X.w X.K X.mg X.base CX k f fd ps sp) (hr : Room k X.A) (hb : Binds X.K fd ps ds) (hd : Vals dvs ds) (hx : ∀ σ, PassesAt CX X σ (E σ)) (ha : PA X (e :: es) t)
    (hst : starEach (e :: es) X.env = (false, eval e X.env) :: starEach es X.env := by exact se_of rfl) (hpl : (backTo pos (starEach es X.env)).any (·.1) = false := by exact pl_of rfl)
    (ht : eval (.Call (.Attribute o m apos) (e :: es) [] pos) X.env = (do
      let ov ← eval o X.env
      standAt apos.atName
      let (f, first) ← holding [ov] (getMethod ov m pl)
      callWith pos f first (backTo pos (starEach (e :: es) X.env)) (backToKw pos (keywordEach [] X.env))) := by rfl) :
    PE X (.Call (.Attribute o m apos) (e :: es) [] pos) (tMethS C m sp dvs E ta t) := by
  refine ⟨fun pins s σ H Q I h => ?_⟩
  refine PySem.W.methodCall_KW (pl := pl) (thn (he.run pins s σ H _ I h) fun u s1 ⟨x, H1, I1, rx, a, dx, fs, ex, ea, l, q⟩ => ?_) ht
  subst ex
  obtain rfl : u = Value.ref a := rx
  refine getmeth_ok I1 ea c hm l ?_
  refine PySem.W.callWith_K (first := [.ref a]) (h₀ := X.base) I.ok.mod.kin hm.kp (thn (ha.run pos pins s1 σ H1 _ I1 q) fun us s2 ⟨vs, H2, I2, r, q2⟩ => ⟨I2.kIn, ?_⟩) hst hpl
  exact run_fnSD (us := .ref a :: us) (vs := .ref a :: vs) F hr hb hd (hx σ) I2 (.cons rfl r) q2
theorem pe_methZ0 {pl : Sem Bool} (he : PE X o ta) (c : Cls X.K C) (hm : Meth X.K C m f) (F : FnOk X.prog X.w X.K X.mg X.base CX k f fd ps sp) (hr : Room k X.A) (hb : Binds X.K fd ps ds) (hd : Vals dvs ds) (hx : ∀ σ, PassesAt CX X σ (E σ))
    (ht : eval (.Call (.Attribute o m apos) [] [] pos) X.env = (do
      let ov ← eval o X.env
      standAt apos.atName
      let (f, first) ← holding [ov] (getMethod ov m pl)
      callWith pos f first (backTo pos (starEach [] X.env)) (backToKw pos (keywordEach [] X.env))) := by rfl) :
    PE X (.Call (.Attribute o m apos) [] [] pos) (tMethS C m sp dvs E ta tNil) := by
  refine ⟨fun pins s σ H Q I h => ?_⟩
  refine PySem.W.methodCall_KW (pl := pl) (thn (he.run pins s σ H _ I h) fun u s1 ⟨x, H1, I1, rx, a, dx, fs, ex, ea, l, q⟩ => ?_) ht
  subst ex
  obtain rfl : u = Value.ref a := rx
  refine getmeth_ok I1 ea c hm l ?_
  exact PySem.W.callWith_K0 (first := [.ref a]) I1.kIn hm.kp (run_fnSD (us := [.ref a]) (vs := [.ref a]) F hr hb hd (hx σ) I1 (.cons rfl .nil) q)
def tMakeS (C : Addr) (sp : Sp) (dvs : List V) (E : L2.St → XK) (t : TA) : TE := fun σ H Q => t σ H fun vs H1 => ∀ x dx, H1 x = none → H1 dx = none → dx ≠ x →
  sp (.ref x :: (vs ++ dvs)) (upd (upd H1 dx (.own x)) x (.ins C dx [])) (fun v H2 => v = .non ∧ Q (.ref x) H2) (E σ)
theorem run_makeS {pins : List (Addr × Obj)} {σ : L2.St} {H : Hp} {s : Shared} {Q : VK} {us : List Value} {vs : List V} (M : L2.Mk X.K C f) (F : FnOk X.prog X.w X.K X.mg X.base CX k f fd ps sp) (hr : Room (k + 1) X.A) (hb : Binds X.K fd ps ds) (hd : Vals dvs ds)
    (hx : PassesAt CX X σ (E σ)) (I : Inv X pins σ H s) (r : Vals vs us)
    (h : ∀ x dx, H x = none → H dx = none → dx ≠ x → sp (.ref x :: (vs ++ dvs)) (upd (upd H dx (.own x)) x (.ins C dx [])) (fun v H2 => v = .non ∧ Q (.ref x) H2) (E σ)) :
    wpAny (model X.prog X.w) X.A (call (.ref C) us) (EP X pins σ Q) X.xe s := by
  have hq := h (s.heap.objs.size + 1) s.heap.objs.size (I.hok.fresh (Nat.le_succ _)) (I.hok.fresh (Nat.le_refl _)) (Nat.ne_of_lt (Nat.lt_succ_self _))
  have I2 := Inv.made (C := C) I
  have r2 : Vals (V.ref (s.heap.objs.size + 1) :: (vs ++ dvs)) (Value.ref (s.heap.objs.size + 1) :: (us ++ ds)) := .cons rfl (r.append hd)
  have hl : (Value.ref (s.heap.objs.size + 1) :: us ++ ds).length = ps.length := by
    have e := r2.length
    rw [F.len _ _ _ _ hq] at e
    exact e.symm
  refine wpAny_call (make_map (f := f) I.kIn M.makes M.init (beq_iff_eq.mp M.fn) (codeAny_mono (F.run _ X.stack _ _ ⟨Value.ref (s.heap.objs.size + 1) :: us, []⟩ (Value.ref (s.heap.objs.size + 1) :: (us ++ ds)) _ _ (E σ) (hr.make C us [])
    (I2.env0.make C us []) (hb _ (Value.ref (s.heap.objs.size + 1) :: us) I2.kIn hl) r2 hq) fun r s' hq' => ?_))
  cases r with
  | error e => exact hx pins _ _ e s' I2 hq'
  | ok fl =>
    cases fl with
    | ret u =>
      obtain ⟨v, H', I3, rv, ev, q3⟩ := I2.after hq'
      subst ev
      exact ⟨rv, ⟨V.ref (s.heap.objs.size + 1), H', I3, rfl, q3⟩⟩
    | next => exact False.elim hq'
    | brk => exact False.elim hq'
    | cont => exact False.elim hq'
theorem pe_makeZ (M : L2.Mk X.K C f) (F : FnOk X.prog X.w X.K X.mg X.base CX k f fd ps sp) (hr : Room (k + 1) X.A) (hg : Gl X x) (hm : X.mg x = some (.ref C)) (hb : Binds X.K fd ps ds) (hd : Vals dvs ds) (hx : ∀ σ, PassesAt CX X σ (E σ))
    (ha : PA X (e :: es) t) (hdb : (x == ("__debug__" : Str)) = false := by decide) (he : starEach (e :: es) X.env = (false, eval e X.env) :: starEach es X.env := by exact se_of rfl) (hpl : (backTo pos (starEach es X.env)).any (·.1) = false := by exact pl_of rfl) :
    PE X (.Call (.Name x p) (e :: es) [] pos) (tMakeS C sp dvs E t) := by
  refine ⟨fun pins s σ H Q I h => ?_⟩
  refine wpAny_Call_Name_kw (ld_glob I hg hm ?_ hdb)
  refine PySem.W.callWith_K (h₀ := X.base) I.ok.mod.kin M.kp (thn (ha.run pos pins s σ H _ I h) fun us s1 ⟨vs, H1, I1, r, q⟩ => ⟨I1.kIn, ?_⟩) he hpl
  exact run_makeS M F hr hb hd (hx σ) I1 r q
theorem pe_makeZ0 (M : L2.Mk X.K C f) (F : FnOk X.prog X.w X.K X.mg X.base CX k f fd ps sp) (hr : Room (k + 1) X.A) (hg : Gl X x) (hm : X.mg x = some (.ref C)) (hb : Binds X.K fd ps ds) (hd : Vals dvs ds) (hx : ∀ σ, PassesAt CX X σ (E σ))
    (hdb : (x == ("__debug__" : Str)) = false := by decide) : PE X (.Call (.Name x p) [] [] pos) (tMakeS C sp dvs E tNil) := by
  refine ⟨fun pins s σ H Q I h => ?_⟩
  refine wpAny_Call_Name_kw (ld_glob I hg hm ?_ hdb)
  exact PySem.W.callWith_K0 I.kIn M.kp (run_makeS (us := []) M F hr hb hd (hx σ) I .nil h)
end
section
variable {C : Kx} {a b c e o : Expr} {es rest : List Expr} {pos p apos : Pos} {x m cn : Str} {ma : MA} {mo : M} {fn : Fn} {k n : Nat} {dfl : List P} {f : Addr}
/-- f(e, ..) with defaults behind -/
def eCallD (n : Nat) (dfl : List P) (f : Fn) (ma : MA) : M := fun sl S => (ma sl S).bind fun ds S1 => if ds.length = n then f (ds ++ dfl.map .p) S1 else .no
theorem len_app {ds : List D} {dfl : List P} {n : Nat} (h : ds.length = n) : (ds ++ dfl.map D.p).length = n + dfl.length := by rw [List.length_append, List.length_map, h]
theorem ej_callD (hF : C.form k (He.ga C.X.K x) fn n dfl) (hk : PySem.W.keepIn C.X.K (.ref (He.ga C.X.K x)) = true) (hm : C.X.mg x = some (.ref (He.ga C.X.K x))) (hr : Room k C.X.A) (h : Aj C ma (e :: es)) (hg : Gl C.X x := by rfl) (hdb : (x == ("__debug__" : Str)) = false := by decide) (he : Se C e es := by exact se_of rfl) (hpl : Pl C es pos := by exact pl_of rfl) :
    Ej C (eCallD n dfl fn ma) (.Call (.Name x p) (e :: es) [] pos) := .mk fun sl S σ F R H hs hr' Q post => by
  obtain ⟨fd, ps, ds, dvs, h1, h2, h3, h4⟩ := hF
  refine ED.of (pe_callSD h1 hr hg hm hk h2 h3 (fun σ => passAt C.tk σ) pa_d hdb he hpl) (h sl S σ F R H hs hr' _ (Post.bind post fun ds S1 vs F1 R1 H1 _ rx rep1 s1 r1 post1 => ?_))
  by_cases hl : ds.length = n
  · rw [if_pos hl] at post1
    have rr := rx.append (RelAll.of_p (R := R1) (h4 F1))
    exact ⟨by rw [rr.length, len_app hl], C.G, F1, R1, S1, _, rep1, rr, post_of post1⟩
  · rw [if_neg hl] at post1; exact post1.elim
/-- o.m(..), o of the class cn -/
def eMeth (cn m : Str) (n : Nat) (dfl : List P) (f : Fn) (mo : M) (ma : MA) : M := fun sl S => (mo sl S).bind fun d S1 => match insOf S1 d with
  | some (c, ks, vs) => if c = cn ∧ lookF ks vs m = (none : Option D) then (ma sl S1).bind fun ds S2 => if ds.length = n then f (d :: (ds ++ dfl.map .p)) S2 else .no else .no
  | none => .no
theorem meth_read {E : L2.St → XK} {sp : Sp} {dvs : List V} {t : TA} {σ : L2.St} {F H : Hp} {R : List Addr} {S : Store} {sl : Slots} {Q : VK} (hE : E = WE C.W) (hsp : sp = spF C.K (n + 1 + dfl.length) fn) (h4 : ∀ F, RpAll C.K F dvs dfl) (h1 : Ej C mo o)
    (h2 : ∀ sl S σ F R H, SlR C.K C.px F R σ sl → Rep C.K C.G F R S H → ∀ Q : List V → Hp → Prop, Post C σ F R (RelAll C.K) Q (ma sl S) → t σ H Q) (hs : SlR C.K C.px F R σ sl) (hr : Rep C.K C.G F R S H) (post : Post C σ F R (RelD C.K) Q (eMeth cn m n dfl fn mo ma sl S)) :
    tMethS (He.ga C.X.K cn) m sp dvs E (ED C.X o) t σ H Q := by
  subst hE hsp
  refine h1 sl S σ F R H hs hr _ (Post.bind post fun d S1 x F1 R1 H1 _ rx rep1 s1 r1 post1 => ?_)
  cases hi : insOf S1 d with
  | none => simp only [hi] at post1; exact post1.elim
  | some q =>
    obtain ⟨c, ks, vs⟩ := q
    simp only [hi] at post1
    by_cases hc : c = cn ∧ lookF ks vs m = (none : Option D)
    · rw [if_pos hc] at post1
      obtain ⟨rfl, hlk⟩ := hc
      obtain ⟨a, dx, fs, rfl, ea, rfl, hv⟩ := insOf_at rx rep1 hi
      have hn := lookF_at (f := m) hv
      rw [hlk] at hn
      refine ⟨a, dx, fs, rfl, ea, hn, h2 sl S1 σ F1 R1 H1 (hs.mono s1 r1) rep1 _ (Post.bind post1 fun ds S2 vs' F2 R2 H2 _ rd rep2 s2 r2 post2 => ?_)⟩
      by_cases hl : ds.length = n
      · rw [if_pos hl] at post2
        have rr := RelAll.append rd (RelAll.of_p (R := R2) (h4 F2))
        refine ⟨by rw [List.length_cons, rr.length, len_app hl]; omega, C.G, F2, R2, S2, _, rep2, .cons (rx.mono s2 r2) rr, post_of post2⟩
      · rw [if_neg hl] at post2; exact post2.elim
    · rw [if_neg hc] at post1; exact post1.elim
theorem ej_meth {pl : Sem Bool} (hc : Cls C.X.K (He.ga C.X.K cn)) (hm : Meth C.X.K (He.ga C.X.K cn) m f) (hF : C.form k f fn (n + 1) dfl) (hr : Room k C.X.A) (h1 : Ej C mo o) (h2 : Aj C ma (e :: es)) (he : Se C e es := by exact se_of rfl) (hpl : Pl C es pos := by exact pl_of rfl)
    (ht : eval (.Call (.Attribute o m apos) (e :: es) [] pos) C.X.env = (do
      let ov ← eval o C.X.env
      standAt apos.atName
      let (f, first) ← holding [ov] (getMethod ov m pl)
      callWith pos f first (backTo pos (starEach (e :: es) C.X.env)) (backToKw pos (keywordEach [] C.X.env))) := by rfl) : Ej C (eMeth cn m n dfl fn mo ma) (.Call (.Attribute o m apos) (e :: es) [] pos) := .mk fun sl S σ F R H hs hr' Q post => by
  obtain ⟨fd, ps, ds, dvs, g1, g2, g3, g4⟩ := hF
  exact ED.of (pe_methZ (pl := pl) pe_d hc hm g1 hr g2 g3 (fun σ => passAt C.tk σ) pa_d he hpl ht) (meth_read rfl rfl g4 h1 h2 hs hr' post)
theorem ej_meth0 {pl : Sem Bool} (hc : Cls C.X.K (He.ga C.X.K cn)) (hm : Meth C.X.K (He.ga C.X.K cn) m f) (hF : C.form k f fn 1 dfl) (hr : Room k C.X.A) (h1 : Ej C mo o)
    (ht : eval (.Call (.Attribute o m apos) [] [] pos) C.X.env = (do
      let ov ← eval o C.X.env
      standAt apos.atName
      let (f, first) ← holding [ov] (getMethod ov m pl)
      callWith pos f first (backTo pos (starEach [] C.X.env)) (backToKw pos (keywordEach [] C.X.env))) := by rfl) : Ej C (eMeth cn m 0 dfl fn mo aN) (.Call (.Attribute o m apos) [] [] pos) := .mk fun sl S σ F R H hs hr' Q post => by
  obtain ⟨fd, ps, ds, dvs, g1, g2, g3, g4⟩ := hF
  exact ED.of (pe_methZ0 (pl := pl) pe_d hc hm g1 hr g2 g3 (fun σ => passAt C.tk σ) ht) (meth_read (n := 0) rfl rfl g4 h1 (fun sl S σ F R H hs hr Q post => (post.okv .nil hr : Q [] H)) hs hr' post)
/-! C(..): a live instance; or one that stands still from now on -/
def eMake (cn : Str) (n : Nat) (dfl : List P) (f : Fn) (ma : MA) : M := fun sl S => (ma sl S).bind fun ds S1 => if ds.length = n then match f (.ref S1.length :: (ds ++ dfl.map .p)) (S1 ++ [.ins cn [] []]) with
    | .ok (.p .non) S2 => .ok (.ref S1.length) S2
    | .exc x S2 => .exc x S2
    | _ => .no
  else .no
def eMakeZ (cn : Str) (n : Nat) (dfl : List P) (f : Fn) (ma : MA) : M := fun sl S => froz S.length (eMake cn n dfl f ma sl S)
theorem make_read {E : L2.St → XK} {sp : Sp} {dvs : List V} {t : TA} {σ : L2.St} {F H : Hp} {R : List Addr} {S : Store} {sl : Slots} {Q : VK} (hE : E = WE C.W) (hsp : sp = spF C.K (n + 1 + dfl.length) fn) (h4 : ∀ F, RpAll C.K F dvs dfl)
    (h2 : ∀ sl S σ F R H, SlR C.K C.px F R σ sl → Rep C.K C.G F R S H → ∀ Q : List V → Hp → Prop, Post C σ F R (RelAll C.K) Q (ma sl S) → t σ H Q) (hs : SlR C.K C.px F R σ sl) (hr : Rep C.K C.G F R S H) (post : Post C σ F R (RelD C.K) Q (eMake cn n dfl fn ma sl S)) :
    tMakeS (He.ga C.X.K cn) sp dvs E t σ H Q := by
  subst hE hsp
  refine h2 sl S σ F R H hs hr _ (Post.bind post fun ds S1 vs F1 R1 H1 _ rd rep1 s1 r1 post1 => ?_)
  intro x dx nx nd ne
  by_cases hl : ds.length = n
  · rw [if_pos hl] at post1
    have hq : ∀ b, upd (upd H1 dx (.own x)) x (.ins (He.ga C.X.K cn) dx []) b = match two x (.ins (He.ga C.X.K cn) dx []) dx (.own x) b with | some o => some o | none => H1 b := fun b => by
      unfold upd two
      by_cases hb : b = x
      · rw [if_pos hb, if_pos hb]
      · rw [if_neg hb, if_neg hb]
        by_cases hb2 : b = dx
        · rw [if_pos hb2, if_pos hb2]
        · rw [if_neg hb2, if_neg hb2]
    have rep2 := rep1.push (a := x) (c := .ins cn [] []) (q := two x (.ins (He.ga C.X.K cn) dx []) dx (.own x)) (H' := upd (upd H1 dx (.own x)) x (.ins (He.ga C.X.K cn) dx [])) (fun b o z => by
      rcases two_some z with ⟨rfl, _⟩ | ⟨rfl, _⟩
      · exact nx
      · exact nd) (.ins (fs := []) ne rfl .nil) hq
    have rr := (rd.append (RelAll.of_p (R := R1) (h4 F1))).mono (Same.refl _) (pre_app (t := [x]))
    refine ⟨by rw [List.length_cons, rr.length, len_app hl]; omega, C.G, F1, R1 ++ [x], _, _, rep2, .cons (show RelD C.K F1 (R1 ++ [x]) (.ref x) (.ref S1.length) from ⟨x, last_get rep1.len, rfl⟩) rr, ?_⟩
    cases hf : fn (.ref S1.length :: (ds ++ dfl.map .p)) (S1 ++ [.ins cn [] []]) with
    | no => simp only [hf] at post1; exact post1.elim
    | exc xc S2 =>
      simp only [hf] at post1
      exact fun cls d F' R' H' h1 h2 h3 h4 => post1 cls d F' R' H' h1 h2 h3 (pre_trans pre_app h4)
    | ok d S2 =>
      cases d with
      | ref k => simp only [hf] at post1; exact post1.elim
      | p q =>
        cases q with
        | non =>
          simp only [hf] at post1
          intro v F' R' H' h1 h2 h3 h4
          cases (show Rp C.K F' v .non from h1)
          exact ⟨rfl, post1 (.ref x) F' R' H' (show RelD C.K F' R' (.ref x) (.ref S1.length) from ⟨x, pre_get h4 (last_get rep1.len), rfl⟩) h2 h3 (pre_trans pre_app h4)⟩
        | _ => simp only [hf] at post1; exact post1.elim
  · rw [if_neg hl] at post1; exact post1.elim
theorem froz_postC {σ : L2.St} {F H : Hp} {R : List Addr} {S : Store} {Q : VK} {r : Rs D} (rep : Rep C.K C.G F R S H) (post : Post C σ F R (RelD C.K) Q (froz S.length r)) : Post C σ F R (RelD C.K) Q r := by
  have := froz_post (E := WE C.W σ) rep (post_of post)
  cases r with
  | ok d S => exact this
  | exc x S => exact this
  | no => exact this
theorem ej_make (hM : L2.Mk C.X.K (He.ga C.X.K x) f) (hm : C.X.mg x = some (.ref (He.ga C.X.K x))) (hF : C.form k f fn (n + 1) dfl) (hr : Room (k + 1) C.X.A) (h2 : Aj C ma (e :: es)) (hg : Gl C.X x := by rfl) (hdb : (x == ("__debug__" : Str)) = false := by decide) (he : Se C e es := by exact se_of rfl) (hpl : Pl C es pos := by exact pl_of rfl) :
    Ej C (eMake x n dfl fn ma) (.Call (.Name x p) (e :: es) [] pos) := .mk fun sl S σ F R H hs hr' Q post => by
  obtain ⟨fd, ps, ds, dvs, g1, g2, g3, g4⟩ := hF
  exact ED.of (pe_makeZ hM g1 hr hg hm g2 g3 (fun σ => passAt C.tk σ) pa_d hdb he hpl) (make_read rfl rfl g4 h2 hs hr' post)
theorem ej_makeZ (hM : L2.Mk C.X.K (He.ga C.X.K x) f) (hm : C.X.mg x = some (.ref (He.ga C.X.K x))) (hF : C.form k f fn (n + 1) dfl) (hr : Room (k + 1) C.X.A) (h2 : Aj C ma (e :: es)) (hg : Gl C.X x := by rfl) (hdb : (x == ("__debug__" : Str)) = false := by decide) (he : Se C e es := by exact se_of rfl) (hpl : Pl C es pos := by exact pl_of rfl) :
    Ej C (eMakeZ x n dfl fn ma) (.Call (.Name x p) (e :: es) [] pos) := .mk fun sl S σ F R H hs hr' Q post =>
  ej_make hM hm hF hr h2 hg hdb he hpl sl S σ F R H hs hr' Q (froz_postC hr' post)
theorem ej_make0 (hM : L2.Mk C.X.K (He.ga C.X.K x) f) (hm : C.X.mg x = some (.ref (He.ga C.X.K x))) (hF : C.form k f fn 1 dfl) (hr : Room (k + 1) C.X.A) (hg : Gl C.X x := by rfl) (hdb : (x == ("__debug__" : Str)) = false := by decide) :
    Ej C (eMake x 0 dfl fn aN) (.Call (.Name x p) [] [] pos) := .mk fun sl S σ F R H hs hr' Q post => by
  obtain ⟨fd, ps, ds, dvs, g1, g2, g3, g4⟩ := hF
  exact ED.of (pe_makeZ0 hM g1 hr hg hm g2 g3 (fun σ => passAt C.tk σ) hdb) (make_read (n := 0) rfl rfl g4 (fun sl S σ F R H hs hr Q post => (post.okv .nil hr : Q [] H)) hs hr' post)
theorem ej_make0Z (hM : L2.Mk C.X.K (He.ga C.X.K x) f) (hm : C.X.mg x = some (.ref (He.ga C.X.K x))) (hF : C.form k f fn 1 dfl) (hr : Room (k + 1) C.X.A) (hg : Gl C.X x := by rfl) (hdb : (x == ("__debug__" : Str)) = false := by decide) :
    Ej C (eMakeZ x 0 dfl fn aN) (.Call (.Name x p) [] [] pos) := .mk fun sl S σ F R H hs hr' Q post =>
  ej_make0 hM hm hF hr hg hdb sl S σ F R H hs hr' Q (froz_postC hr' post)
end
end Z

namespace Z
open PySem PySem.Spec PyProof.Rows L2
/-! ### the text of data -/
mutual
theorem py_noDict : ∀ (p : P), (py p).hasDict = false
  | .non => by simp only [py, PyData.hasDict]
  | .bl _ => by simp only [py, PyData.hasDict]
  | .int _ => by simp only [py, PyData.hasDict]
  | .str _ => by simp only [py, PyData.hasDict]
  | .tup ps => by simp only [py, PyData.hasDict]; exact py_noDicts ps
  | .lst ps => by simp only [py, PyData.hasDict]; exact py_noDicts ps
  | .dic _ _ _ => by simp only [py, PyData.hasDict]
  | .ins _ _ _ => by simp only [py, PyData.hasDict]
  | .glo _ => by simp only [py, PyData.hasDict]
  | .ty _ => by simp only [py, PyData.hasDict]
  | .scr _ => by simp only [py, PyData.hasDict]
  | .exv _ _ _ => by simp only [py, PyData.hasDict]
theorem py_noDicts : ∀ (ps : List P), PyData.hasDictAll (pyAll ps) = false
  | [] => by simp only [pyAll, PyData.hasDictAll]
  | p :: ps => by simp only [pyAll, PyData.hasDictAll, Bool.or_eq_false_iff]; exact ⟨py_noDict p, py_noDicts ps⟩
end
def shOk (p : P) : Bool := fin dpt p && ((py p).showable && decide ((py p).shown.length ≤ 1000000))
def reprP : List P → Option P
  | [p] => if shOk p = true then some (.str (py p).shown) else none
  | _ => none
section
variable {X : Cx}
theorem call_repr (hg : X.A.guards = some []) (hu : X.A.units + 200 < cLine) : CallR X (.builtin "repr") (fun xs H Q => ∃ v d, xs = [v] ∧ Dp X.K H v d ∧ d.hasDict = false ∧ d.depth ≤ 100 ∧ d.showable = true ∧ d.shown.length ≤ 1000000 ∧ Q (.str d.shown) H) := by
  intro pins s σ H xs us Q I r h
  obtain ⟨v, d, rfl, hd, nd, hdp, hsh, hln, q⟩ := h
  have hz : d.shown.length ≤ sizeLine := Nat.le_trans hln (by rw [sizeLine_eq]; omega)
  cases r with
  | cons r1 r2 =>
    cases r2
    obtain ⟨as, rd⟩ := Dp.reads I d _ _ hd r1
    have ref : ∀ {a : Addr}, Reads s.heap (.ref a) d as → wpAny (model X.prog X.w) X.A (call (.builtin "repr") [.ref a]) (EP X pins σ Q) X.xe s := fun {a} rd =>
      repr_of_reads' rd hsh (PyData.noDict_hsm nd) hg (by omega) (fun _ _ e => e) (fun h' u tk hk => ⟨.str d.shown, H, I.kept hk, ⟨u, rfl⟩, q⟩) hz
    cases hd with
    | non => cases r1; simp only [PyData.shown] at q; exact PySem.P.repr_of_none ⟨.str _, H, I.tok _, ⟨_, rfl⟩, q⟩
    | bl b =>
      cases r1
      simp only [PyData.shown] at q
      exact PySem.P.repr_of_bool ⟨.str _, H, I.tok _, ⟨_, rfl⟩, by cases b <;> exact q⟩
    | int i =>
      obtain ⟨t, rfl⟩ := r1
      simp only [PyData.shown] at q
      exact PySem.P.repr_of_int (by simpa only [PyData.showable, decide_eq_true_eq] using hsh) ⟨.str _, H, I.tok _, ⟨_, rfl⟩, q⟩
    | str z =>
      obtain ⟨t, rfl⟩ := r1
      simp only [PyData.shown] at q hz
      exact PySem.P.repr_of_str ⟨.str _, H, I.tok _, ⟨_, rfl⟩, q⟩ hz
    | lst e al => cases (show _ = _ from r1); exact ref rd
    | tup e al => cases (show _ = _ from r1); exact ref rd
theorem cv_repr {K : Fr} : CallV K (fun xs H Q => ∃ v d, xs = [v] ∧ Dp K.K H v d ∧ d.hasDict = false ∧ d.depth ≤ 100 ∧ d.showable = true ∧ d.shown.length ≤ 1000000 ∧ Q (.str d.shown) H) reprP := fun ps z vs F H Q e hx s k => by
  unfold reprP at e
  split at e
  · obtain ⟨v, rfl, h⟩ := vw1 hx
    obtain ⟨hc, rfl⟩ := if_some e
    unfold shOk at hc
    simp only [Bool.and_eq_true, decide_eq_true_eq] at hc
    obtain ⟨h1, h2, h3⟩ := hc
    exact ⟨v, _, rfl, rp_dp dpt _ _ h1 (h.rd s), py_noDict _, Nat.le_trans (fin_lay dpt _ h1).2 (by decide), h2, h3, k _ F H (.str _) (Grow.refl s)⟩
  · cases e
end
section
variable {C : Kx} {e : Expr} {es : List Expr} {pos p : Pos} {ma : MA}
theorem ej_repr (hG : C.X.A.guards = some []) (hr : Room 0 C.X.A) (hm : C.X.mg "repr" = none) (h : Aj C ma (e :: es)) (hg : Gl C.X "repr" := by rfl) (he : Se C e es := by exact se_of rfl) (hpl : Pl C es pos := by exact pl_of rfl) : Ej C (eF reprP ma) (.Call (.Name "repr" p) (e :: es) [] pos) :=
  ej_callB (call_repr hG (by have := hr.un; omega)) cv_repr hm (by decide +kernel) h hg (he := he) (hpl := hpl)
end
/-! ### defs that are called where no text is under way -/
structure FnG (P : Program) (w : World) (K : PySem.W.Frag) (mg : Str → Option Value) (base : Heap) (CX : CXT) (k : Nat) (f : Addr) (fd : FuncData) (ps : List Str) (sp : Sp) : Prop where
  len : ∀ vs H Q E, sp vs H Q E → vs.length = ps.length
  run : ∀ (A : Around) (outer : List Env) (s : Shared) (H : Hp) (args : Args) (us : List Value) (vs : List V) (Q : VK) (E : XK), A.guards = some [] → Room k A → Env0 P w K mg base A outer s H → BindsTo s fd args (ps.zip us) → Vals vs us → sp vs H Q E →
    codeAny (model P w) A (.call (.ref f) args) (CR CX outer P w H s Q E) s
section
variable {P : Program} {w : World} {K : PySem.W.Frag} {mg : Str → Option Value} {base : Heap} {CX : CXT} {k : Nat} {f : Addr} {fd : FuncData} {N ps : List Str} {sp sp' : Sp}
theorem FnG.of (F : FnOk P w K mg base CX k f fd ps sp) : FnG P w K mg base CX k f fd ps sp := ⟨F.len, fun A outer s H args us vs Q E _ => F.run A outer s H args us vs Q E⟩
theorem FnG.mono {j : Nat} (F : FnG P w K mg base CX j f fd ps sp) (h : j ≤ k) : FnG P w K mg base CX k f fd ps sp := ⟨F.len, fun A outer s H args us vs Q E g hr => F.run A outer s H args us vs Q E g (hr.mono h)⟩
theorem FnG.imp (F : FnG P w K mg base CX k f fd ps sp) (h : ∀ vs H Q E, sp' vs H Q E → sp vs H Q E) : FnG P w K mg base CX k f fd ps sp' := ⟨fun vs H Q E q => F.len vs H Q E (h vs H Q E q), fun A outer s H args us vs Q E g hr e b r q => F.run A outer s H args us vs Q E g hr e b r (h vs H Q E q)⟩
theorem fnG_of {name qual : Str} {params : Arguments} {body : List Stmt} {scope : Scope} {dV kV doc pm cdv ct oc : Value} {an od : Option Addr} {osl : Array (Option Value)}
    (lk : K.lookup f = some ⟨oc, od, .func (PySem.W.fnOf name qual params body scope dV kV doc pm an cdv ct), osl⟩) (hcd : PySem.W.codeIn K cdv qual = true) (S : FnScope N ps scope) (len : ∀ vs H Q E, sp vs H Q E → vs.length = ps.length)
    (hb : ∀ (A : Around) (outer : List Env) (s : Shared) (H : Hp) (vs : List V) (Q : VK) (E : XK), A.guards = some [] → Room k (A.deeper (envOfC qual scope s.heap.objs.size f cdv)) → sp vs H Q E → ∃ t, PSs (cxOf CX P w K mg base N qual scope f cdv A outer s H E) body t ∧ t { nx := fun _ H' => Q .non H', rt := Q } (L2.start N vs) H) :
    FnG P w K mg base CX (k + 1) f (PySem.W.fnOf name qual params body scope dV kV doc pm an cdv ct) ps sp where
  len := len
  run := by
    intro A outer s H args us vs Q E g room env bind rel want
    obtain ⟨t, body_t, at_t⟩ := hb A outer s H vs Q E g (room.deeper _) want
    have old : ∀ b o, base.get? b = some o → s.heap.get? b = some o := fun b o e => (env.bs b o e).1
    have KX : K.In s.heap := env.mod.kin.keeps old
    refine codeAny_call_function room.depth (KX _ _ lk) rfl S.co S.gen rfl (PySem.W.codeRec_of KX hcd) (bind _ _ _ _ (wpAny_newFunctionEnv_cells S.kind ?kinds fun e' he s1 new => ?_))
    case kinds =>
      rintro ⟨n, v⟩ hy
      refine (S.par n (List.of_mem_zip hy).1).imp id fun q => ⟨q, PySem.W.cellsFrom_some _ _ _ (.inl q)⟩
    cases he
    refine ⟨(env.mod.nolimit.keeps old).keeps new.toInCall.keep, codeAny_func (wpAny_mono (body_t.run [] s1 (L2.start N vs) H _ (inv_start S room.hd env (len _ _ _ _ want) rel new) at_t) ?_ fun _ _ z => z)⟩
    rintro (_ | _ | _ | u) s' h
    · obtain ⟨_, H', J, q⟩ := h
      exact ⟨.non, H', J.os, J.bare, J.base, J.hok, rfl, q⟩
    · obtain ⟨_, _, _, q⟩ := h
      exact q.elim
    · obtain ⟨_, _, _, q⟩ := h
      exact q.elim
    · obtain ⟨v, _, H', J, r, q⟩ := h
      exact ⟨v, H', J.os, J.bare, J.base, J.hok, r, q⟩
end
section
variable {X : Cx} {CX : CXT} {k : Nat} {f : Addr} {fd : FuncData} {ps : List Str} {sp : Sp} {E : L2.St → XK} {x : Str} {p pos : Pos} {e : Expr} {es : List Expr} {t : TA}
theorem pe_callG (F : FnG X.prog X.w X.K X.mg X.base CX k f fd ps sp) (g : X.A.guards = some []) (hr : Room k X.A) (hg : Gl X x) (hm : X.mg x = some (.ref f)) (hk : PySem.W.keepIn X.K (.ref f) = true) (hb : Binds X.K fd ps []) (hx : ∀ σ, PassesAt CX X σ (E σ))
    (ha : PA X (e :: es) t) (hdb : (x == ("__debug__" : Str)) = false := by decide) (he : starEach (e :: es) X.env = (false, eval e X.env) :: starEach es X.env := by exact se_of rfl) (hpl : (backTo pos (starEach es X.env)).any (·.1) = false := by exact pl_of rfl) :
    PE X (.Call (.Name x p) (e :: es) [] pos) (fun σ H Q => t σ H fun vs H1 => sp vs H1 Q (E σ)) := by
  constructor
  intro pins s σ H Q I h
  refine wpAny_Call_Name_kw (ld_glob I hg hm (PySem.W.callWith_K (h₀ := X.base) I.ok.mod.kin hk (thn (ha.run pos pins s σ H _ I h) ?_) he hpl) hdb)
  rintro us s1 ⟨vs, H1, I1, r, q⟩
  refine ⟨I1.kIn, ?_⟩
  have hl : (us ++ []).length = ps.length := by rw [List.append_nil, ← r.length]; exact F.len _ _ _ _ q
  have b := hb s1 us I1.kIn hl
  rw [List.append_nil] at b
  refine wpAny_call (codeAny_mono (F.run X.A X.stack s1 H1 ⟨us, []⟩ us vs Q (E σ) g hr I1.env0 b r q) ?_)
  rintro (er | _ | _ | _ | u) s' hq
  · exact hx σ pins H1 s1 er s' I1 hq
  · exact hq.elim
  · exact hq.elim
  · exact hq.elim
  · exact I1.after hq
end
def OkG (P : Program) (w : World) (K : PySem.W.Frag) (mg : Str → Option Value) (base : Heap) (k : Nat) (x : Str) (ps : List Str) (f : Fn) : Prop :=
  ∃ fd, FnG P w K mg base (L2.CX P w) k (He.ga K x) fd ps (spF ⟨K, P, w⟩ ps.length f) ∧ Binds K fd ps [] ∧ PySem.W.keepIn K (.ref (He.ga K x)) = true ∧ mg x = some (.ref (He.ga K x)) ∧ ∃ oc od osl, K.lookup (He.ga K x) = some ⟨oc, od, .func fd, osl⟩
section
variable {P : Program} {w : World} {K : PySem.W.Frag} {mg : Str → Option Value} {base : Heap} {k : Nat} {x : Str} {N ps : List Str} {st : Stmt} {f : Fn} {b : MS}
theorem OkF.g (h : OkF P w K mg base k x ps f) : OkG P w K mg base k x ps f := by
  obtain ⟨fd, h1, h2⟩ := h
  exact ⟨fd, .of h1, h2⟩
theorem OkG.mono {j : Nat} (h : OkG P w K mg base k x ps f) (hj : k ≤ j) : OkG P w K mg base j x ps f := by
  obtain ⟨fd, h1, h2⟩ := h
  exact ⟨fd, h1.mono hj, h2⟩
theorem OkG.imp {f' : Fn} (h : OkG P w K mg base k x ps f) (hf : ∀ G F R S ds H (Q : VK) (E : XK), Rep ⟨K, P, w⟩ G F R S H → PostF ⟨K, P, w⟩ G F R Q E (f' ds S) → PostF ⟨K, P, w⟩ G F R Q E (f ds S)) : OkG P w K mg base k x ps f' := by
  obtain ⟨fd, h1, h2⟩ := h
  exact ⟨fd, h1.imp fun vs H Q E ⟨hl, G, F, R, S, ds, rep, rx, post⟩ => ⟨hl, G, F, R, S, ds, rep, rx, hf G F R S ds H Q E rep post⟩, h2⟩
theorem run_post {K : Fr} {G F : Hp} {R : List Addr} {S0 : Store} {ds : List D} {Q : VK} {E : XK} {C : Kx} (hK : K = C.K) (hG : G = C.G) (hW : C.W = fun cls d _ H => E cls d H) (post : PostF K G F R Q E (runB N.length b ds S0)) :
    PostS C F R { nx := fun _ H' => Q .non H', rt := Q } (b (ent N.length ds) S0) := by
  subst hK hG
  unfold runB at post
  cases hbb : b (ent N.length ds) S0 with
  | nx sl S' =>
    rw [hbb] at post
    exact fun σ' F' R' H' _ h2 h3 h4 => post .non F' R' H' (show RelD C.K F' R' .non (.p .non) from .non) h2 h3 h4
  | rt d S' => rw [hbb] at post; exact post
  | exc x sl S' =>
    rw [hbb] at post
    intro cls d σ' F' R' H' h0 _ h2 h3 h4
    rw [hW]
    exact post cls d F' R' H' h0 h2 h3 h4
  | bk sl S' => rw [hbb] at post; exact post.elim
  | ct sl S' => rw [hbb] at post; exact post.elim
  | no => rw [hbb] at post; exact post.elim
theorem ok_fnG (D : DefAt K mg x st) (S : FnScope N ps (defScope st)) (hb : BindsBy x ps st)
    (body : ∀ (cdv : Value) (A : Around) (outer : List Env) (s : Shared) (H : Hp) (E : XK) (G : Hp), A.guards = some [] → Room k (A.deeper (envOfC x (defScope st) s.heap.objs.size (He.ga K x) cdv)) → Sj (cxZ P w K mg base N x (defScope st) (He.ga K x) cdv A outer s H E G) b (defBody st)) : OkG P w K mg base (k + 1) x ps (runB N.length b) := by
  obtain ⟨⟨fd, Fu⟩, hm⟩ := D
  refine ⟨fd, ?_, Fu.bindsN hb, Fu.kp, hm, let ⟨oc, od, _, _, _, _, _, _, _, osl, _, lk, _⟩ := Fu.ex; ⟨oc, od, osl, lk⟩⟩
  obtain ⟨oc, od, dV, kV, doc, pm, an, cdv, ct, osl, rfl, lk, hcd, _, _⟩ := Fu.ex
  refine fnG_of lk hcd S (fun vs H Q E h => h.1) fun A outer s H vs Q E g hr h => ⟨_, pss_d, ?_⟩
  obtain ⟨hl, G, F, R, S0, ds, rep, rx, post⟩ := h
  exact body cdv A outer s H E G g hr _ S0 _ F R H (ent_rel rx) rep _ (run_post rfl rfl rfl post)
theorem ok_fzG {n : Nat} (h : OkG P w K mg base k x ps (runB n b)) : OkG P w K mg base k x ps (runZ n b) := h.imp fun G F R S ds H Q E rep post => froz_post rep post
end
section
variable {C : Kx} {a b c e : Expr} {es rest : List Expr} {pos p : Pos} {x : Str} {ma : MA} {f : Fn} {k : Nat} {ps : List Str}
abbrev Kx.okG (C : Kx) (k : Nat) (x : Str) (ps : List Str) (f : Fn) : Prop := OkG C.X.prog C.X.w C.X.K C.X.mg C.X.base k x ps f
theorem ej_callG (hF : C.okG k x ps f) (g : C.X.A.guards = some []) (hr : Room k C.X.A) (h : Aj C ma (e :: es)) (hg : Gl C.X x := by rfl) (hdb : (x == ("__debug__" : Str)) = false := by decide) (he : starEach (e :: es) C.X.env = (false, eval e C.X.env) :: starEach es C.X.env := by exact se_of rfl) (hpl : (backTo pos (starEach es C.X.env)).any (·.1) = false := by exact pl_of rfl) :
    Ej C (eCall ps.length f ma) (.Call (.Name x p) (e :: es) [] pos) := .mk fun sl S σ F R H hs hr' Q post => by
  obtain ⟨fd, h1, h2, h3, h4, _⟩ := hF
  refine ED.of (pe_callG h1 g hr hg h4 h3 h2 (fun σ => passAt C.tk σ) pa_d hdb he hpl) (h sl S σ F R H hs hr' _ (Post.bind post fun ds S1 vs F1 R1 H1 _ rx rep1 s1 r1 post1 => ?_))
  by_cases hl : ds.length = ps.length
  · rw [if_pos hl] at post1
    exact ⟨by rw [rx.length]; exact hl, C.G, F1, R1, S1, ds, rep1, rx, post_of post1⟩
  · rw [if_neg hl] at post1; exact post1.elim
end
end Z

namespace Z
open PySem PySem.Spec PyProof.Rows L2
/-! ### tables at the top: a written dict from words to tuples of defs, or to defs -/
def KTup (K : PySem.W.Frag) (a : Addr) (xs : List V) : Prop := ∃ (o : Obj) (its : Array Value) (n : Nat), K.lookup a = some o ∧ o.cls = .type "tuple" ∧ o.data = .seq its n ∧ its.size ≤ sizeLine ∧ Vals xs its.toList
def ktupB (K : PySem.W.Frag) (a : Addr) (xs : List V) : Bool := match K.lookup a with
  | some ⟨.type "tuple", _, .seq its _, _⟩ => decide (its.size ≤ 100) && He.relAll xs its.toList
  | _ => false
theorem ktupB_ok {K : PySem.W.Frag} {a : Addr} {xs : List V} (h : ktupB K a xs = true) : KTup K a xs := by
  unfold ktupB at h
  split at h
  · rename_i od its n sl q
    obtain ⟨h1, h2⟩ := He.ba h
    exact ⟨_, its, n, q, rfl, rfl, Nat.le_trans (of_decide_eq_true h1) (by decide), He.relAll_ok h2⟩
  · cases h
def keyS (e : DictEntry) : Option Str := match e.key with
  | .str x _ => some x
  | _ => none
def keysB (K : PySem.W.Frag) (a : Addr) (ks : List Str) : Bool := match K.lookup a with
  | some ⟨_, _, .dict es _, _⟩ => decide (es.toList.map keyS = ks.map some)
  | _ => false
theorem find_none {z : Str} : ∀ {l : List DictEntry} {ks : List Str}, l.map keyS = ks.map some → z ∉ ks → l.find? (·.key.isStr z) = none ∧ l.any (·.refKey) = false
  | [], _, _, _ => ⟨rfl, rfl⟩
  | e :: r, [], h, _ => by cases h
  | e :: r, k :: ks, h, hz => by
    have h1 : keyS e :: r.map keyS = some k :: ks.map some := h
    injection h1 with h2 h3
    simp only [List.mem_cons, not_or] at hz
    obtain ⟨i1, i2⟩ := find_none h3 hz.2
    unfold keyS at h2
    split at h2
    · rename_i x t q
      cases h2
      have e1 : e.key.isStr z = false := by
        rw [q]
        simp only [Value.isStr]
        exact beq_eq_false_iff_ne.mpr (fun y => hz.1 y.symm)
      have e2 : e.refKey = false := by simp [DictEntry.refKey, q]
      exact ⟨by rw [List.find?_cons, e1]; exact i1, by rw [List.any_cons, e2, i2]; rfl⟩
    · cases h2
theorem keysB_none {K : PySem.W.Frag} {a : Addr} {ks : List Str} (h : keysB K a ks = true) {z : Str} (hz : z ∉ ks) : PySem.W.nsIn K a z = some none := by
  unfold keysB at h
  unfold PySem.W.nsIn
  split at h
  · rename_i es n sl q
    rw [q]
    obtain ⟨h1, h2⟩ := find_none (of_decide_eq_true h) hz
    simp only [h1, h2]
    rfl
  · cases h
/-- what stands in a table: a tuple of defs, or a def -/
inductive Ent where
  | tup (cs : List Str)
  | one (c : Str)
def Ent.p : Ent → P
  | .tup cs => .tup (cs.map .glo)
  | .one c => .glo c
abbrev Tabl := List (Str × Ent)
def tabAt (tab : Tabl) (z : Str) : Option Ent := (tab.find? fun p => decide (p.1 = z)).map (·.2)
def tabB (K : PySem.W.Frag) (x : Str) (tab : Tabl) : Bool := keysB K (He.ga K x) (tab.map (·.1)) && tab.all fun p => match PySem.W.nsIn K (He.ga K x) p.1 with
  | some (some (.ref t)) => match p.2 with
    | .tup cs => decide (cs ≠ []) && ktupB K t (cs.map fun x => V.ref (He.ga K x))
    | .one c => decide (t = He.ga K c)
  | _ => false
structure TabOk (w : World) (K : PySem.W.Frag) (mg : Str → Option Value) (x : Str) (tab : Tabl) : Prop where
  at_ : mg x = some (.ref (He.ga K x))
  dict : ∃ es n, KDict K w (He.ga K x) es n
  no : ∀ z, tabAt tab z = none → PySem.W.nsIn K (He.ga K x) z = some none
  yes : ∀ z e, tabAt tab z = some e → ∃ t, PySem.W.nsIn K (He.ga K x) z = some (some (.ref t)) ∧ ∀ (pg : Program) (F : Hp), Rp ⟨K, pg, w⟩ F (.ref t) e.p
theorem rp_glos {K : Fr} {F : Hp} : ∀ cs : List Str, RpAll K F (cs.map fun x => V.ref (He.ga K.K x)) (cs.map .glo)
  | [] => .nil
  | c :: cs => .cons (.glo c) (rp_glos cs)
theorem tabOk_of {w : World} {K : PySem.W.Frag} {mg : Str → Option Value} {x : Str} {tab : Tabl} (h1 : mg x = some (.ref (He.ga K x))) (h2 : ∃ es n, KDict K w (He.ga K x) es n) (h3 : tabB K x tab = true) : TabOk w K mg x tab := by
  obtain ⟨k1, k2⟩ := He.ba h3
  refine ⟨h1, h2, fun z hz => keysB_none k1 fun hm => ?_, fun z e hz => ?_⟩
  · obtain ⟨p, hp, e⟩ := List.mem_map.mp hm
    unfold tabAt at hz
    rw [Option.map_eq_none_iff, List.find?_eq_none] at hz
    exact hz p hp (decide_eq_true e)
  · unfold tabAt at hz
    cases q : tab.find? fun p => decide (p.1 = z) with
    | none => rw [q] at hz; cases hz
    | some p =>
      rw [q] at hz
      cases hz
      have e1 : p.1 = z := of_decide_eq_true (List.find?_some (p := fun p : Str × Ent => decide (p.1 = z)) q)
      have e2 := List.all_eq_true.mp k2 p (List.mem_of_find?_eq_some q)
      rw [e1] at e2
      split at e2
      · rename_i t ht
        refine ⟨t, ht, fun pg F => ?_⟩
        split at e2
        · rename_i cs hcs
          obtain ⟨e3, e4⟩ := He.ba e2
          show Rp _ F (.ref t) p.2.p
          rw [hcs]
          refine .tupW (.inr (ktupB_ok e4)) (rp_glos cs) ?_
          cases cs with
          | nil => simp at e3
          | cons c cs => rfl
        · rename_i c hc
          show Rp _ F (.ref t) p.2.p
          rw [hc, of_decide_eq_true e2]
          exact .glo c
      · cases e2
section
variable {C : Kx} {a b e : Expr} {pos p : Pos} {m1 : M} {x : Str} {tab : Tabl}
def onStr (f : Str → Store → Rs D) : D → Store → Rs D
  | .p (.str z), S => f z S
  | _, _ => .no
def eTabAt (tab : Tabl) (m1 : M) : M := fun sl S => (m1 sl S).bind (onStr fun z S1 => match tabAt tab z with
  | some e => .ok (.p e.p) S1
  | none => .no)
def onStrB (f : Str → Bool) : D → Store → Rs Bool
  | .p (.str z), S => .ok (f z) S
  | _, _ => .no
def tTab (tab : Tabl) (m1 : M) : MT := fun sl S => (m1 sl S).bind (onStrB fun z => (tabAt tab z).isSome)
def tNTab (tab : Tabl) (m1 : M) : MT := fun sl S => (m1 sl S).bind (onStrB fun z => !(tabAt tab z).isSome)
theorem ed_glob {σ : L2.St} {H : Hp} {Q : VK} (hg : Gl C.X x) (hm : C.X.mg x = some (.ref (He.ga C.X.K x))) (q : Q (.ref (He.ga C.X.K x)) H) (hd : (x == ("__debug__" : Str)) = false := by decide) : ED C.X (.Name x pos) σ H Q := by
  exact ED.of (pe_glob (v := .ref (He.ga C.X.K x)) hg hm rfl hd) q
theorem tj_tabNot (T : TabOk C.X.w C.X.K C.X.mg x tab) (h1 : Ej C m1 a) (hg : Gl C.X x := by rfl) (hd : (x == ("__debug__" : Str)) = false := by decide) (hm : Mk .NotIn (.Name x p) := by first | exact nomark _ | rfl) : Tj C (tNTab tab m1) (.Compare a [.NotIn] [.Name x p] pos) := .mk fun sl S σ F R H hs hr Q post => by
  obtain ⟨es, n, D⟩ := T.dict
  refine TD.of (pt_cmpR (op_notIn_kd D) pe_d pe_d hm) (h1 sl S σ F R H hs hr _ (Post.bind post fun d S1 v F1 R1 H1 _ rx rep1 s1 r1 post1 => ed_glob hg T.at_ ?_ hd))
  unfold onStrB at post1
  split at post1
  · rename_i z _
    cases (show Rp C.K F1 v (.str z) from rx)
    cases hp : tabAt tab z with
    | none => simp only [hp] at post1; exact ⟨z, none, rfl, rfl, T.no z hp, true, rfl, post1.okv rfl rep1⟩
    | some en =>
      simp only [hp] at post1
      obtain ⟨t, e1, e2⟩ := T.yes z en hp
      exact ⟨z, _, rfl, rfl, e1, false, rfl, post1.okv rfl rep1⟩
  · exact post1.elim
theorem tj_tabIn (T : TabOk C.X.w C.X.K C.X.mg x tab) (h1 : Ej C m1 a) (hg : Gl C.X x := by rfl) (hd : (x == ("__debug__" : Str)) = false := by decide) (hm : Mk .In (.Name x p) := by first | exact nomark _ | rfl) : Tj C (tTab tab m1) (.Compare a [.In] [.Name x p] pos) := .mk fun sl S σ F R H hs hr Q post => by
  obtain ⟨es, n, D⟩ := T.dict
  refine TD.of (pt_cmpR (op_in_kd D) pe_d pe_d hm) (h1 sl S σ F R H hs hr _ (Post.bind post fun d S1 v F1 R1 H1 _ rx rep1 s1 r1 post1 => ed_glob hg T.at_ ?_ hd))
  unfold onStrB at post1
  split at post1
  · rename_i z _
    cases (show Rp C.K F1 v (.str z) from rx)
    cases hp : tabAt tab z with
    | none => simp only [hp] at post1; exact ⟨z, none, rfl, rfl, T.no z hp, false, rfl, post1.okv rfl rep1⟩
    | some en =>
      simp only [hp] at post1
      obtain ⟨t, e1, e2⟩ := T.yes z en hp
      exact ⟨z, _, rfl, rfl, e1, true, rfl, post1.okv rfl rep1⟩
  · exact post1.elim
theorem ej_tabAt (T : TabOk C.X.w C.X.K C.X.mg x tab) (h1 : Ej C m1 b) (hg : Gl C.X x := by rfl) (hd : (x == ("__debug__" : Str)) = false := by decide) (hs : PlainIx b := by exact fun _ _ => rfl) : Ej C (eTabAt tab m1) (.Subscript (.Name x p) b pos) := .mk fun sl S σ F R H hsl hr Q post => by
  obtain ⟨es, n, D⟩ := T.dict
  refine ED.of (pe_ix ix_kdict pe_d pe_d hs) (ed_glob hg T.at_ (h1 sl S σ F R H hsl hr _ (Post.bind post fun d S1 v F1 R1 H1 _ rx rep1 s1 r1 post1 => ?_)) hd)
  unfold onStr at post1
  split at post1
  · rename_i z _
    cases (show Rp C.K F1 v (.str z) from rx)
    cases hp : tabAt tab z with
    | none => simp only [hp] at post1; exact post1.elim
    | some en =>
      simp only [hp] at post1
      obtain ⟨t, e1, e2⟩ := T.yes z en hp
      exact ⟨_, z, .ref t, rfl, rfl, ⟨es, n, _, D.at_, D.lit, e1, rfl⟩, post1.okv (show RelD C.K F1 R1 (.ref t) (.p en.p) from e2 _ F1) rep1⟩
  · exact post1.elim
end
/-! ### a local name that holds a def -/
section
variable {X : Cx} {CX : CXT} {k i : Nat} {f : Addr} {fd : FuncData} {ps : List Str} {sp : Sp} {E : L2.St → XK} {x : Str} {p pos : Pos} {e : Expr} {es : List Expr} {t : TA}
abbrev FnTab := List (Str × Nat × Fn)
def fnAt (tab : FnTab) (g : Str) : Option (Nat × Fn) := (tab.find? fun p => decide (p.1 = g)).map (·.2)
def tCallZ (i : Nat) (ok : Addr → Sp → Prop) (E : L2.St → XK) (t : TA) : TE := fun σ H Q => ∃ f sp, σ[i]? = some (some (.ref f)) ∧ ok f sp ∧ t σ H fun vs H1 => sp vs H1 Q (E σ)
theorem pe_callZ {ok : Addr → Sp → Prop} (A : ∀ f sp, ok f sp → ∃ (fd : FuncData) (ps : List Str), FnOk X.prog X.w X.K X.mg X.base CX k f fd ps sp ∧ PySem.W.keepIn X.K (.ref f) = true ∧ Binds X.K fd ps []) (hr : Room k X.A) (hN : X.N[i]? = some x) (hv : Vis X.env.scope x) (hx : ∀ σ, PassesAt CX X σ (E σ)) (ha : PA X (e :: es) t)
    (hdb : (x == ("__debug__" : Str)) = false := by decide) (hcd : (x == ("__classdict__" : Str)) = false := by decide)
    (he : starEach (e :: es) X.env = (false, eval e X.env) :: starEach es X.env := by exact se_of rfl) (hpl : (backTo pos (starEach es X.env)).any (·.1) = false := by exact pl_of rfl) : PE X (.Call (.Name x p) (e :: es) [] pos) (tCallZ i ok E t) := by
  refine ⟨fun pins s σ H Q I h => ?_⟩
  obtain ⟨f, sp, hs, ho, ht⟩ := h
  obtain ⟨fd, ps, F, hk, hb⟩ := A f sp ho
  refine wpAny_Call_Name_kw (thn ((pe_var (pos := p) hN hv hdb hcd).run pins s σ H (fun v H1 => v = .ref f ∧ H1 = H) I ⟨.ref f, hs, rfl, rfl⟩) fun u s1 ⟨v, H1, I1, r1, q1⟩ => ?_)
  obtain ⟨rfl, rfl⟩ := q1
  cases r1
  refine PySem.W.callWith_K (h₀ := X.base) I.ok.mod.kin hk (thn (ha.run pos pins s1 σ _ _ I1 ht) fun us s2 ⟨vs, H2, I2, r, q⟩ => ⟨I2.kIn, ?_⟩) he hpl
  exact run_fnSD (dvs := []) F hr hb .nil (hx σ) I2 r (by rw [List.append_nil]; exact q)
end
section
variable {C : Kx} {e : Expr} {es : List Expr} {pos p : Pos} {x : Str} {ma : MA} {k i : Nat} {tab : FnTab}
def eCallL (tab : FnTab) (i : Nat) (ma : MA) : M := fun sl S => match sl[i]? with
  | some (some (.p (.glo g))) => match fnAt tab g with
    | some (n, f) => eCall n f ma sl S
    | none => .no
  | _ => .no
theorem ej_callL (i : Nat) (A : ∀ q ∈ tab, ∃ ps : List Str, ps.length = q.2.1 ∧ C.ok k q.1 ps q.2.2) (hr : Room k C.X.A) (h : Aj C ma (e :: es)) (hN : C.X.N[i]? = some x := by rfl) (hv : Vis C.X.env.scope x := by first | exact Or.inl rfl | exact Or.inr (Or.inl rfl) | exact Or.inr (Or.inr rfl)) (hdb : (x == ("__debug__" : Str)) = false := by decide) (hcd : (x == ("__classdict__" : Str)) = false := by decide)
    (he : starEach (e :: es) C.X.env = (false, eval e C.X.env) :: starEach es C.X.env := by exact se_of rfl) (hpl : (backTo pos (starEach es C.X.env)).any (·.1) = false := by exact pl_of rfl) : Ej C (eCallL tab i ma) (.Call (.Name x p) (e :: es) [] pos) := .mk fun sl S σ F R H hs hr' Q post => by
  unfold eCallL at post
  split at post
  · rename_i g hi
    split at post
    · rename_i n f hf
      obtain ⟨v, e1, e2⟩ := hs.2 _ _ hi
      cases (show Rp C.K F v (.glo g) from e2)
      unfold fnAt at hf
      cases hq : tab.find? (fun p => decide (p.1 = g)) with
      | none => rw [hq] at hf; cases hf
      | some q =>
        rw [hq] at hf
        have hq1 : q.2 = (n, f) := Option.some.inj hf
        have hg : q.1 = g := of_decide_eq_true (List.find?_some (p := fun p : Str × Nat × Fn => decide (p.1 = g)) hq)
        obtain ⟨ps, hl, hF⟩ := A q (List.mem_of_find?_eq_some hq)
        rw [hq1, hg] at hF
        rw [hq1] at hl
        obtain ⟨fd, h1, h2, h3, h4, _⟩ := hF
        refine ED.of (pe_callZ (i := i) (CX := L2.CX C.X.prog C.X.w) (k := k) (ok := fun f' sp => f' = He.ga C.X.K g ∧ sp = spF C.K ps.length f) (fun f' sp o => by obtain ⟨rfl, rfl⟩ := o; exact ⟨fd, ps, h1, h3, h2⟩) hr hN hv (fun σ => passAt C.tk σ) pa_d hdb hcd he hpl)
          ⟨_, _, e1, ⟨rfl, rfl⟩, h sl S σ F R H hs hr' _ (Post.bind post fun ds S1 vs F1 R1 H1 _ rx rep1 s1 r1 post1 => ?_)⟩
        by_cases hd : ds.length = n
        · rw [if_pos hd] at post1
          exact ⟨by rw [rx.length, hd]; exact hl.symm, C.G, F1, R1, S1, ds, rep1, rx, post_of post1⟩
        · rw [if_neg hd] at post1; exact post1.elim
    · exact post.elim
  · exact post.elim
end
end Z

theorem L2.Room.u16 {k : Nat} {A : PySem.Around} (r : L2.Room k A) : A.units + 16 < PySem.cLine := by have := r.un; omega
namespace Z
open PySem PySem.Spec PyProof.Rows L2
/-! ### defs at any address, with defaults -/
abbrev BindsByD (x qual : Str) (ps : List Str) (st : Stmt) (n m j : Nat) : Prop := ∀ (T : Addr) (kV doc pm : Value) (an : Option Addr) (cdv ct : Value) (us its : List Value), us.length = n → its.length = m →
  ∃ k, bindArgs (PySem.W.fnOf x qual (defArgs st) (defBody st) (defScope st) (.ref T) kV doc pm an cdv ct) ⟨us, []⟩ = seqItems? (.ref T) >>= k ∧ k (some its.toArray) = pure (ps.zip (us ++ its.drop j))
abbrev BindsByN (x qual : Str) (ps : List Str) (st : Stmt) : Prop := ∀ (kV doc pm : Value) (an : Option Addr) (cdv ct : Value) (us : List Value), us.length = ps.length →
  bindArgs (PySem.W.fnOf x qual (defArgs st) (defBody st) (defScope st) .none kV doc pm an cdv ct) ⟨us, []⟩ = pure (ps.zip us)
/-- the def's object, and that it computes fn -/
def OkA (P : Program) (w : World) (K : PySem.W.Frag) (mg : Str → Option Value) (base : Heap) (k : Nat) (x qual : Str) (f : Addr) (st : Stmt) (dvs : List V) (ps : List Str) (fn : Fn) : Prop :=
  ∃ fd, FunD K x qual (defArgs st) (defBody st) (defScope st) dvs [] f fd ∧ FnOk P w K mg base (L2.CX P w) k f fd ps (spF ⟨K, P, w⟩ ps.length fn)
section
variable {P : Program} {w : World} {K : PySem.W.Frag} {mg : Str → Option Value} {base : Heap} {k : Nat} {x qual : Str} {N ps : List Str} {st : Stmt} {fn : Fn} {b : MS} {f : Addr} {dvs : List V}
theorem okA_fn (D : ∃ fd, FunD K x qual (defArgs st) (defBody st) (defScope st) dvs [] f fd) (S : FnScope N ps (defScope st))
    (body : ∀ (cdv : Value) (A : Around) (outer : List Env) (s : Shared) (H : Hp) (E : XK) (G : Hp), Room k (A.deeper (envOfC qual (defScope st) s.heap.objs.size f cdv)) → Sj (cxZ P w K mg base N qual (defScope st) f cdv A outer s H E G) b (defBody st)) : OkA P w K mg base (k + 1) x qual f st dvs ps (runB N.length b) := by
  obtain ⟨fd, Fu⟩ := D
  refine ⟨fd, Fu, Fu.ok S (fun vs H Q E h => h.1) (fun cdv A outer s H vs Q E hr h => ?_)⟩
  obtain ⟨hl, G, F, R, S0, ds, rep, rx, post⟩ := h
  exact ⟨_, pss_d, body cdv A outer s H E G hr _ S0 _ F R H (ent_rel rx) rep _ (run_post rfl rfl rfl post)⟩
theorem OkA.imp {fn' : Fn} (h : OkA P w K mg base k x qual f st dvs ps fn) (hf : ∀ G F R S ds H (Q : VK) (E : XK), Rep ⟨K, P, w⟩ G F R S H → PostF ⟨K, P, w⟩ G F R Q E (fn' ds S) → PostF ⟨K, P, w⟩ G F R Q E (fn ds S)) : OkA P w K mg base k x qual f st dvs ps fn' := by
  obtain ⟨fd, h0, h1⟩ := h
  exact ⟨fd, h0, h1.imp fun vs H Q E ⟨hl, G, F, R, S, ds, rep, rx, post⟩ => ⟨hl, G, F, R, S, ds, rep, rx, hf G F R S ds H Q E rep post⟩⟩
theorem okA_fz {n : Nat} (h : OkA P w K mg base k x qual f st dvs ps (runB n b)) : OkA P w K mg base k x qual f st dvs ps (runZ n b) := h.imp fun G F R S ds H Q E rep post => froz_post rep post
theorem OkA.keep (h : OkA P w K mg base k x qual f st dvs ps fn) : PySem.W.keepIn K (.ref f) = true := let ⟨_, h0, _⟩ := h; h0.kp
/-- called with all its arguments -/
theorem OkA.form (h : OkA P w K mg base k x qual f st [] ps fn) (hb : BindsByN x qual ps st) {n : Nat} (hn : ps.length = n) : Form P w K mg base k f fn n [] := by
  obtain ⟨fd, h0, h1⟩ := h
  subst hn
  exact ⟨fd, ps, [], [], h1, h0.bindsN hb, .nil, fun _ => .nil⟩
/-- called with n arguments; the defaults from the j-th on fill up -/
theorem OkA.formD (h : OkA P w K mg base k x qual f st dvs ps fn) (n j : Nat) {dfl : List Z.P} (hd : dvs ≠ []) (hn : n + (dvs.length - j) = ps.length) (hb : BindsByD x qual ps st n dvs.length j) (hp : ∀ F, RpAll ⟨K, P, w⟩ F (dvs.drop j) dfl) : Form P w K mg base k f fn n dfl := by
  obtain ⟨fd, h0, h1⟩ := h
  obtain ⟨ds, v, bi⟩ := h0.binds1 n j hd hn hb
  have hl : n + dfl.length = ps.length := by rw [← (hp (fun _ => none)).length, List.length_drop]; exact hn
  exact ⟨fd, ps, ds, _, by rw [hl]; exact h1, bi, v, hp⟩
end
/-! ### the law's call -/
section
variable {P : Program} {w : World} {K : PySem.W.Frag} {h : Heap} {a : Addr} {vs : List Value} {ns : List Int}
abbrev scrObj (vs : List Value) : Obj := { cls := .type "list", data := .seq vs.toArray }
theorem scr_heap (KX : K.In h) (ha : h.get? a = some (scrObj vs)) (hi : IntsAre vs ns) (hl : ns.length ≤ sizeLine) :
    ∃ H : Hp, SqL K H a (ns.map V.int) ∧ HOk P w H h ∧ (∀ b o, H b = some o → b = a ∧ K.lookup a = none ∧ o = .frz (scrObj vs) (.lst (ns.map V.int))) := by
  have rv := vals_ints hi
  cases hk : K.lookup a with
  | some o =>
    obtain rfl : o = scrObj vs := by
      have := KX a o hk
      rw [ha] at this
      exact (Option.some.inj this).symm
    refine ⟨fun _ => none, .inr ⟨_, _, _, hk, rfl, rfl, rfl, ?_, ?_⟩, ?_, ?_⟩
    · rw [List.size_toArray, hi.length]; exact hl
    · simpa using rv
    · intro b u z; cases (show (none : Option HO) = some u from z)
    · intro b u z; cases (show (none : Option HO) = some u from z)
  | none =>
    refine ⟨upd (fun _ => none) a (.frz (scrObj vs) (.lst (ns.map V.int))), .inl (.inr ⟨_, upd_same⟩), ?_, ?_⟩
    · intro b u z
      by_cases e : b = a
      · subst e
        rw [upd_same] at z
        cases z
        exact ⟨ha, by rw [List.length_map]; exact hl, vs, _, rv, ha⟩
      · rw [upd_ne e] at z; cases z
    · intro b u z
      by_cases e : b = a
      · subst e
        rw [upd_same] at z
        exact ⟨rfl, rfl, (Option.some.inj z).symm⟩
      · rw [upd_ne e] at z; cases z
end
theorem law_callG {P : Program} {w : World} {K : PySem.W.Frag} {mg mb : Str → Option Value} {CX : CXT} {k : Nat} {fa a : Addr} {fd : FuncData} {x : Str} {sp : Sp} {s : Shared} {vs : List Value} {ns : List Int}
    (KX : K.In s.heap) (gl : s.heap.Ns mainGlobals mg) (bi : s.heap.Ns builtinsNs mb) (bib : ∀ x : Str, x ≠ "__name__" → mb x = bootBuiltins x) (lim : s.heap.NoLimit) (gens : s.gens = #[])
    (ha : s.heap.get? a = some (scrObj vs)) (hi : IntsAre vs ns) (hl : ns.length ≤ sizeLine) (room : Room k callerA) (F : ∀ base : Heap, FnG P w K mg base CX k fa fd [x] sp) (bind : ∀ (s : Shared) (u : Value), BindsTo s fd ⟨[u], []⟩ [(x, u)])
    (want : ∀ H : Hp, SqL K H a (ns.map V.int) → sp [.ref a] H (fun v _ => v = .bl true) fun _ _ _ => False) (hCX : ∀ H e s', CX [] H s (fun _ _ _ => False) e s' → False) :
    codeAny (model P w) callerA (.call (.ref fa) ⟨[.ref a], []⟩) (fun r s' => r = .ok (.ret (.bool true)) ∧ OldK s.heap s'.heap ∧ s'.os = s.os ∧ AllBare s'.gens) s := by
  obtain ⟨H, hS, hok, only⟩ := scr_heap (P := P) (w := w) KX ha hi hl
  have seen : ∀ {b : Addr} {o : Obj}, s.heap.get? b = some o → (b = a → K.lookup a ≠ none) → (hidT s.heap H).get? b = some o := fun {b o} e n => by
    refine hidT_get e ?_
    cases q : H b with
    | none => rfl
    | some u => exact absurd (only b u q).2.1 (n (only b u q).1)
  have seenN : ∀ {b : Addr} {m : Str → Option Value}, s.heap.Ns b m → (hidT s.heap H).Ns b m := by
    rintro b m ⟨o, es, ep, e, d, r⟩
    refine ⟨o, es, ep, seen e ?_, d, r⟩
    rintro rfl
    rw [ha] at e
    cases e
    cases (show Data.seq vs.toArray _ = Data.dict es ep from d)
  have kin : K.In (hidT s.heap H) := fun b o e => seen (KX b o e) (by rintro rfl; rw [e]; exact nofun)
  obtain ⟨mc, l1, l2⟩ := lim
  have env : Env0 P w K mg (hidT s.heap H) callerA [] s H := ⟨rfl, ⟨kin, seenN gl, ⟨mb, seenN bi, bib⟩, ⟨mc, seenN l1, l2⟩⟩, fun b o e => of_hidT e, Nat.le_of_eq (hidT_size _ _), trivial, nofun, hok, .of_eq gens⟩
  refine codeAny_mono ((F (hidT s.heap H)).run callerA [] s H ⟨[.ref a], []⟩ [.ref a] [.ref a] _ _ rfl room env (bind s (.ref a)) (.cons rfl .nil) (want H hS)) ?_
  rintro (er | _ | _ | _ | u) s' q
  · exact (hCX H er s' q).elim
  · exact q.elim
  · exact q.elim
  · exact q.elim
  · obtain ⟨v, H', os, bare, un, hok', r', q⟩ := q
    cases (show v = .bl true from q)
    cases (show u = Value.bool true from r')
    refine ⟨rfl, OldK.of_keep fun b o e => ?_, os, bare⟩
    cases z : H b with
    | none => exact un.keep b o e z nofun (by simp)
    | some ho =>
      obtain ⟨rfl, _, rfl⟩ := only b ho z
      have e1 := (hok b _ z).1
      rw [e] at e1
      cases e1
      exact (hok' b _ (un.frzs b _ _ z)).1
theorem rep0 {K : Fr} {H : Hp} : Rep K (fun _ => none) H [] [] H :=
  ⟨fun _ => nil, Same.refl _, rfl, fun n c e => by simp at e, fun n a o e => by simp [nil] at e, fun n m a e => absurd rfl e, fun _ _ => rfl, fun a o e => by simp at e⟩
theorem walk_ofG {l : PySem.W.OpenLaw} {n k : Nat} {q : Program} {loose : List Str} {XP : (Str → Option Value) → Heap → Prop} {YP : World → Heap → Prop} {d : DefRec} {x : Str} {f : Fn}
    (hn : l.most = some n) (hn2 : n ≤ sizeLine) (hdf : d.params.defaults = []) (room : Room k callerA)
    (F : ∀ (w : World) (mg : Str → Option Value) (fa : Addr) (h : Heap), YP w h → h.Ns mainGlobals mg → mg d.name = some (.ref fa) →
      ∃ (K : PySem.W.Frag) (fd : FuncData), K.In h ∧ (∀ (s : Shared) (u : Value), BindsTo s fd ⟨[u], []⟩ [(x, u)]) ∧ (∀ base : Heap, FnG l.prog w K mg base (L2.CX l.prog w) k fa fd [x] (spF ⟨K, l.prog, w⟩ 1 f)))
    (law : ∀ ns : List Int, ns.length ≤ n → ∃ S, f [.p (.scr ns)] [] = .ok (.p (.bl true)) S) :
    PySem.W.WalkO q loose XP YP l.row.toRowW d [] (fun f vs => PySem.call f vs) := by
  refine Att.attach_call hn hdf ?_
  intro w s₀ s₁ mg mb fa o pm cd doc a vs ns G Y ho hd hcd hmg hobj hints hlen hg
  obtain ⟨K, fd, KX, b, f⟩ := F w mg fa _ Y G.T.g hmg
  obtain ⟨S, e⟩ := law ns hlen
  refine law_callG KX G.T.g G.T.b G.T.builtins G.T.nolimit hg hobj hints (Nat.le_trans hlen hn2) room f b (fun H hS => ⟨rfl, _, H, [], [], [.p (.scr ns)], rep0, .cons (show Rp _ H (.ref a) (.scr ns) from .scr hS) .nil, ?_⟩) fun H e s' => ?_
  · rw [e]
    intro v F' R' H' h1 _ _ _
    cases (show Rp _ F' v (.bl true) from h1)
    rfl
  · rintro ⟨a, B, H', cls, d, _, _, _, _, _, _, _, z⟩
    exact z
end Z

namespace Z
open PySem PySem.Spec PyProof.Rows L2
/-! ### methods of texts -/
def eSm (f : Str → List P → Option P) (mo : M) (ma : MA) : M := fun sl S => (mo sl S).bind fun d S1 => match d with
  | .p (.str z) => (ma sl S1).bind fun ds S2 => match views S2 ds with
    | some ps => match f z ps with
      | some q => .ok (.p q) S2
      | none => .no
    | none => .no
  | _ => .no
def SmV (K : Fr) (r : V → List V → Hp → VK → Prop) (f : Str → List P → Option P) : Prop := ∀ z ps q vs F H (Q : VK), f z ps = some q → VwAll K F H vs ps → Same F H → (∀ v F' H', Rp K F' v q → Grow F H F' H' → Q v H') → r (.str z) vs H Q
section
variable {C : Kx} {a b c e o : Expr} {es rest : List Expr} {pos p apos cpos : Pos} {x m : Str} {ma : MA} {mo me : M} {f : Str → List P → Option P} {r : V → List V → Hp → VK → Prop} {K : Fr}
theorem ej_sm (hp : PE C.X c (tBM C.X.K "str" r (ED C.X o) (AD C.X es))) (hf : SmV C.K r f) (h1 : Ej C mo o) (h2 : Aj C ma es) : Ej C (eSm f mo ma) c := .mk fun sl S σ F R H hs hr Q post =>
  ED.of hp (h1 sl S σ F R H hs hr _ (Post.bind post fun d S1 v F1 R1 H1 _ rv rep1 s1 r1 post1 => by
    cases d with
    | ref n => exact post1.elim
    | p q =>
      cases q with
      | str z =>
        cases (show Rp C.K F1 v (.str z) from rv)
        refine ⟨rfl, h2 sl S1 σ F1 R1 H1 (hs.mono s1 r1) rep1 _ (Post.bind post1 fun ds S2 vs F2 R2 H2 _ rd rep2 s2 r2 post2 => ?_)⟩
        cases hv : views S2 ds with
        | none => simp only [hv] at post2; exact post2.elim
        | some ps =>
          simp only [hv] at post2
          cases hff : f z ps with
          | none => simp only [hff] at post2; exact post2.elim
          | some q =>
            simp only [hff] at post2
            exact hf z ps q vs F2 H2 Q hff (views_vw rd rep2 hv) rep2.sub fun v F' H' rv g => post2 v F' R2 H' rv (rep2.grow g) g.sF pre_refl
      | _ => exact post1.elim))
theorem rp_strs {F : Hp} : ∀ ys : List Str, RpAll K F (ys.map V.str) (ys.map P.str)
  | [] => .nil
  | y :: ys => .cons (.str y) (rp_strs ys)
def splitP (z : Str) : List P → Option P
  | [.str y] => if (y.length == 0) = false ∧ z.length + 2 ≤ sizeLine then some (.lst ((PySem.Txt.split z y).map .str)) else none
  | _ => none
theorem sv_split : SmV K (fun x xs H Q => ∃ a b, x = .str a ∧ xs = [.str b] ∧ (b.length == 0) = false ∧ a.length + 2 ≤ sizeLine ∧ rNewStrs (PySem.Txt.split a b) H Q) splitP := fun z ps q vs F H Q e hx s k => by
  unfold splitP at e
  split at e
  · obtain ⟨v, rfl, h⟩ := vw1 hx
    obtain ⟨hc, rfl⟩ := if_some e
    cases h.str
    exact ⟨z, _, rfl, rfl, hc.1, hc.2, fun p hp => k (.ref p) _ _ (.lst upd_same (rp_strs _)) (Grow.new s hp)⟩
  · cases e
theorem ej_split (h1 : Ej C mo o) (h2 : Ej C me e) (hbase : Bs C o "split" := by rfl) (hfew : Few C [e] cpos := by rfl) (hline : (apos.endLine == cpos.line) = true := by rfl) (hs : starEach [e] C.X.env = (false, eval e C.X.env) :: starEach [] C.X.env := by exact se_of rfl) :
    Ej C (eSm splitP mo (aC me aN)) (.Call (.Attribute o "split" apos) [e] [] cpos) :=
  ej_sm (pe_bm PySem.F.plainAttrs_str PySem.F.slot_str_split PySem.F.type_str_split mt_split pe_d pa_d hbase hfew hline hs) sv_split h1 (aj_cons h2 aj_nil hs)
def partitionP (z : Str) : List P → Option P
  | [.str y] => if (y.length == 0) = false ∧ z.length ≤ sizeLine then some (.tup [.str (PySem.Txt.partition z y).1, .str (PySem.Txt.partition z y).2.1, .str (PySem.Txt.partition z y).2.2]) else none
  | _ => none
theorem sv_partition : SmV K (fun x xs H Q => ∃ a b, x = .str a ∧ xs = [.str b] ∧ (b.length == 0) = false ∧ a.length ≤ sizeLine ∧ ∀ p, H p = none → Q (.ref p) (upd H p (.tup [.str (PySem.Txt.partition a b).1, .str (PySem.Txt.partition a b).2.1, .str (PySem.Txt.partition a b).2.2]))) partitionP := fun z ps q vs F H Q e hx s k => by
  unfold partitionP at e
  split at e
  · obtain ⟨v, rfl, h⟩ := vw1 hx
    obtain ⟨hc, rfl⟩ := if_some e
    cases h.str
    exact ⟨z, _, rfl, rfl, hc.1, hc.2, fun p hp => k (.ref p) _ _ (.tup upd_same (.cons (.str _) (.cons (.str _) (.cons (.str _) .nil)))) (Grow.new s hp)⟩
  · cases e
theorem ej_partition (h1 : Ej C mo o) (h2 : Ej C me e) (hbase : Bs C o "partition" := by rfl) (hfew : Few C [e] cpos := by rfl) (hline : (apos.endLine == cpos.line) = true := by rfl) (hs : starEach [e] C.X.env = (false, eval e C.X.env) :: starEach [] C.X.env := by exact se_of rfl) :
    Ej C (eSm partitionP mo (aC me aN)) (.Call (.Attribute o "partition" apos) [e] [] cpos) :=
  ej_sm (pe_bm PySem.F.plainAttrs_str PySem.F.slot_str_partition PySem.F.type_str_partition mt_partition pe_d pa_d hbase hfew hline hs) sv_partition h1 (aj_cons h2 aj_nil hs)
def startsP (z : Str) : List P → Option P
  | [.str y] => some (.bl (PySem.Txt.startswith z y))
  | _ => none
theorem sv_starts : SmV K (fun x xs H Q => ∃ a b, x = .str a ∧ xs = [.str b] ∧ Q (.bl (PySem.Txt.startswith a b)) H) startsP := fun z ps q vs F H Q e hx s k => by
  unfold startsP at e
  split at e
  · obtain ⟨v, rfl, h⟩ := vw1 hx
    cases e
    cases h.str
    exact ⟨z, _, rfl, rfl, k _ F H (.bl _) (Grow.refl s)⟩
  · cases e
theorem ej_starts (h1 : Ej C mo o) (h2 : Ej C me e) (hbase : Bs C o "startswith" := by rfl) (hfew : Few C [e] cpos := by rfl) (hline : (apos.endLine == cpos.line) = true := by rfl) (hs : starEach [e] C.X.env = (false, eval e C.X.env) :: starEach [] C.X.env := by exact se_of rfl) :
    Ej C (eSm startsP mo (aC me aN)) (.Call (.Attribute o "startswith" apos) [e] [] cpos) :=
  ej_sm (pe_bm PySem.F.plainAttrs_str PySem.F.slot_str_startswith PySem.F.type_str_startswith mt_startswith pe_d pa_d hbase hfew hline hs) sv_starts h1 (aj_cons h2 aj_nil hs)
def strsOf : List P → Option (List Str)
  | [] => some []
  | .str y :: ps => (strsOf ps).map (y :: ·)
  | _ => none
theorem strsOf_rp {F : Hp} : ∀ {ps : List P} {ys : List Str} {vs : List V}, strsOf ps = some ys → RpAll K F vs ps → vs = ys.map V.str
  | [], ys, vs, e, h => by cases e; cases h; rfl
  | p :: ps, ys, vs, e, h => by
    cases h with
    | @cons v vs' d ds h1 h2 =>
      cases p with
      | str y =>
        simp only [strsOf] at e
        cases hp : strsOf ps with
        | none => rw [hp] at e; cases e
        | some zs =>
          rw [hp] at e
          cases e
          cases h1
          rw [strsOf_rp hp h2]
          rfl
      | _ => cases e
def joinP (z : Str) : List P → Option P
  | [.lst ps] => match strsOf ps with
    | some ys => if (ys.map (·.length)).sum + ys.length * z.length ≤ 16777216 then some (.str (PySem.Txt.join z ys)) else none
    | none => none
  | [.tup ps] => match strsOf ps with
    | some ys => if (ys.map (·.length)).sum + ys.length * z.length ≤ 16777216 then some (.str (PySem.Txt.join z ys)) else none
    | none => none
  | _ => none
theorem sv_join : SmV K (fun x xs H Q => ∃ a p, ∃ ys : List Str, x = .str a ∧ xs = [.ref p] ∧ (SqL K.K H p (ys.map V.str) ∨ SqT K.K H p (ys.map V.str)) ∧ (ys.map (·.length)).sum + ys.length * a.length ≤ 16777216 ∧ Q (.str (PySem.Txt.join a ys)) H) joinP := fun z ps q vs F H Q e hx s k => by
  unfold joinP at e
  split at e
  · obtain ⟨v, rfl, h⟩ := vw1 hx
    split at e
    · rename_i ys hys
      obtain ⟨hc, rfl⟩ := if_some e
      obtain ⟨a, vs, rfl, h1, h2⟩ := h.lstE s
      rw [strsOf_rp hys h2] at h1
      exact ⟨z, a, ys, rfl, rfl, .inl (.inl (.inl h1)), hc, k _ F H (.str _) (Grow.refl s)⟩
    · cases e
  · obtain ⟨v, rfl, h⟩ := vw1 hx
    split at e
    · rename_i ys hys
      obtain ⟨hc, rfl⟩ := if_some e
      obtain ⟨a, vs, rfl, h1, h2⟩ := h.tupE
      rw [strsOf_rp hys h2] at h1
      exact ⟨z, a, ys, rfl, rfl, .inr (same_sqT s h1), hc, k _ F H (.str _) (Grow.refl s)⟩
    · cases e
  · cases e
theorem ej_join (h1 : Ej C mo o) (h2 : Ej C me e) (hbase : Bs C o "join" := by rfl) (hfew : Few C [e] cpos := by rfl) (hline : (apos.endLine == cpos.line) = true := by rfl) (hs : starEach [e] C.X.env = (false, eval e C.X.env) :: starEach [] C.X.env := by exact se_of rfl) :
    Ej C (eSm joinP mo (aC me aN)) (.Call (.Attribute o "join" apos) [e] [] cpos) :=
  ej_sm (pe_bm PySem.F.plainAttrs_str PySem.F.slot_str_join PySem.F.type_str_join mt_join pe_d pa_d hbase hfew hline hs) sv_join h1 (aj_cons h2 aj_nil hs)
/-! ### texts with holes -/
def fmtP : P → Option P
  | .str y => if y.length ≤ sizeLine then some (.str y) else none
  | .int i => if i.natAbs.log2 < 1920 then some (.str (toString i)) else none
  | .non => some (.str "None")
  | .bl b => some (.str (if b then "True" else "False" : String))
  | _ => none
def tFmtZ (te : TE) : TE := fun σ H Q => te σ H fun x H1 => (∃ y : Str, x = .str y ∧ y.length ≤ sizeLine ∧ Q (.str y) H1) ∨ (∃ i : Int, x = .int i ∧ i.natAbs.log2 < 1920 ∧ Q (.str (toString i)) H1) ∨ (x = .non ∧ Q (.str "None") H1) ∨ ∃ b : Bool, x = .bl b ∧ Q (.str (if b then "True" else "False" : String)) H1
theorem pe_fmtZ {X : Cx} {e : Expr} {te : TE} {pos : Pos} (he : PE X e te) : PE X (.FormattedValue e (-1) none pos) (tFmtZ te) := by
  refine ⟨fun pins s σ H Q I h => ?_⟩
  refine wpAny_FormattedValue_plain (thn (he.run pins s σ H _ I h) fun v s1 hv => ?_)
  obtain ⟨x, H1, I1, r1, q⟩ := hv
  rcases q with ⟨y, rfl, hz, q⟩ | ⟨i, rfl, hz, q⟩ | ⟨rfl, q⟩ | ⟨b, rfl, q⟩
  · obtain ⟨t, rfl⟩ := r1
    exact wpAny_formatField_str ⟨.str y, H1, I1, ⟨t, rfl⟩, q⟩ ⟨.str y, H1, I1.tok _, ⟨_, rfl⟩, q⟩ hz
  · obtain ⟨t, rfl⟩ := r1
    exact wpAny_formatField_int hz ⟨.str (toString i), H1, I1.tok _, ⟨_, rfl⟩, q⟩
  · cases r1
    exact wpAny_formatField_none ⟨.str "None", H1, I1.tok _, ⟨_, rfl⟩, q⟩
  · cases r1
    exact wpAny_formatField_bool ⟨.str (if b then "True" else "False" : String), H1, I1.tok _, ⟨_, by cases b <;> rfl⟩, q⟩
theorem ej_fmt (h : Ej C me e) : Ej C (eU fmtP me) (.FormattedValue e (-1) none pos) := .mk fun sl S σ F R H hs hr Q post =>
  ED.of (pe_fmtZ pe_d) (h sl S σ F R H hs hr _ (Post.bind post fun d S1 v F1 R1 H1 _ rv rep1 s1 r1 post1 => by
    unfold lift1 at post1
    cases hv : view S1 d with
    | none => rw [hv] at post1; exact post1.elim
    | some q =>
      rw [hv] at post1
      have vw := view_vw rv rep1 hv
      cases q with
      | str y =>
        cases vw.str
        simp only [fmtP] at post1
        by_cases hc : y.length ≤ sizeLine
        · rw [if_pos hc] at post1
          exact .inl ⟨y, rfl, hc, post1.okv (show RelD C.K F1 R1 (.str y) (.p (.str y)) from .str y) rep1⟩
        · rw [if_neg hc] at post1; exact post1.elim
      | int i =>
        cases vw.int
        simp only [fmtP] at post1
        by_cases hc : i.natAbs.log2 < 1920
        · rw [if_pos hc] at post1
          exact .inr (.inl ⟨i, rfl, hc, post1.okv (show RelD C.K F1 R1 (.str (toString i)) (.p (.str (toString i))) from .str _) rep1⟩)
        · rw [if_neg hc] at post1; exact post1.elim
      | non =>
        cases vw.non
        exact .inr (.inr (.inl ⟨rfl, post1.okv (show RelD C.K F1 R1 (.str "None") (.p (.str "None")) from .str _) rep1⟩))
      | bl b =>
        cases vw.bl
        exact .inr (.inr (.inr ⟨b, rfl, post1.okv (show RelD C.K F1 R1 (.str (if b then "True" else "False" : String)) (.p (.str (if b then "True" else "False" : String))) from .str _) rep1⟩))
      | _ => exact post1.elim))
def jsL : List M → Str → Slots → Store → Rs Str
  | [], acc, _, S => .ok acc S
  | m :: ms, acc, sl, S => (m sl S).bind fun d S1 => match d with
    | .p (.str y) => if (acc ++ y).length ≤ sizeLine then jsL ms (acc ++ y) sl S1 else .no
    | _ => .no
def eJs (ms : List M) : M := fun sl S => (jsL ms Str.empty sl S).bind fun z S1 => .ok (.p (.str z)) S1
inductive Jj (C : Kx) : List M → List Expr → Prop
  | nil : Jj C [] []
  | cons {m : M} {e : Expr} {ms : List M} {es : List Expr} (h : Ej C m e) (t : Jj C ms es) : Jj C (m :: ms) (e :: es)
theorem Jj.pj {ms : List M} {es : List Expr} (h : Jj C ms es) : PJ C.X es (es.map (ED C.X)) := by
  induction h with
  | nil => exact .nil
  | cons h t ih => exact .cons pe_d ih
theorem Jj.run {ms : List M} {es : List Expr} (h : Jj C ms es) : ∀ (acc : Str) (sl : Slots) (S : Store) (σ : L2.St) (F : Hp) (R : List Addr) (H : Hp), SlR C.K C.px F R σ sl → Rep C.K C.G F R S H → ∀ Q : Str → Hp → Prop, Post C σ F R (fun _ _ b a => b = a) Q (jsL ms acc sl S) → tJs (es.map (ED C.X)) acc σ H Q := by
  induction h with
  | nil => exact fun acc sl S σ F R H hs hr Q post => post.okv rfl hr
  | @cons m e ms es h t ih =>
    intro acc sl S σ F R H hs hr Q post
    simp only [List.map_cons, tJs]
    refine h sl S σ F R H hs hr _ (Post.bind post fun d S1 v F1 R1 H1 _ rv rep1 s1 r1 post1 => ?_)
    cases d with
    | ref n => exact post1.elim
    | p q =>
      cases q with
      | str y =>
        cases (show Rp C.K F1 v (.str y) from rv)
        simp only [] at post1
        by_cases hc : (acc ++ y).length ≤ sizeLine
        · rw [if_pos hc] at post1
          exact ⟨y, rfl, hc, ih (acc ++ y) sl S1 σ F1 R1 H1 (hs.mono s1 r1) rep1 Q post1⟩
        · rw [if_neg hc] at post1; exact post1.elim
      | _ => exact post1.elim
theorem ej_js {m1 m2 : M} {ms : List M} {e1 e2 : Expr} {es : List Expr} (h : Jj C (m1 :: m2 :: ms) (e1 :: e2 :: es)) : Ej C (eJs (m1 :: m2 :: ms)) (.JoinedStr (e1 :: e2 :: es) pos) := .mk fun sl S σ F R H hs hr Q post =>
  ED.of (pe_joined h.pj) (h.run Str.empty sl S σ F R H hs hr _ (by
    unfold eJs at post
    exact Post.bind post fun z S1 b F1 R1 H1 _ rb rep1 s1 r1 post1 => by
      subst rb
      exact post1.okv (show RelD C.K F1 R1 (.str b) (.p (.str b)) from .str b) rep1))
end
end Z

namespace Z
open PySem PySem.Spec PyProof.Rows L2
/-! ### what cannot be reached -/
def sNo : MS := fun _ _ => .no
theorem sj_no {C : Kx} {st : Stmt} : Sj1 C sNo st := .mk fun _ _ _ _ _ _ _ _ _ post => post.elim
def eNo : M := fun _ _ => .no
theorem ej_no {C : Kx} {e : Expr} : Ej C eNo e := .mk fun _ _ _ _ _ _ _ _ _ post => post.elim
/-! ### match over a list of texts -/
inductive PatE where
  | lit (z : Str)
  | cap (j : Nat)
inductive PatJ (X : Cx) : Pattern → PatE → Prop
  | lit {z : Str} {k p1 p2} : PatJ X (.MatchValue (.Constant (.str z) k p1) p2) (.lit z)
  | cap {x : Str} {j : Nat} {p} : X.N[j]? = some x → Loc X.env.scope x → (X.fn x = true ∨ X.env.scope.names.lookup x = some .local) → PatJ X (.MatchAs none (some x) p) (.cap j)
inductive PatsJ (X : Cx) : List Pattern → List PatE → Prop
  | nil : PatsJ X [] []
  | cons {p : Pattern} {q : PatE} {ps : List Pattern} {qs : List PatE} : PatJ X p q → PatsJ X ps qs → PatsJ X (p :: ps) (q :: qs)
def matchE : List PatE → List P → Option (Option (List (Nat × P)))
  | [], [] => some (some [])
  | .lit z :: qs, .str y :: ps => if y = z then matchE qs ps else some none
  | .cap j :: qs, p :: ps => match matchE qs ps with
    | some (some bs) => some (some ((j, p) :: bs))
    | r => r
  | _, _ => none
inductive BdR (X : Cx) (K : Fr) (F : Hp) : List (Str × Value) → List (Nat × P) → Prop
  | nil : BdR X K F [] []
  | cons {x : Str} {u : Value} {j : Nat} {p : P} {v : V} {bs : List (Str × Value)} {ds : List (Nat × P)} : X.N[j]? = some x → Loc X.env.scope x → (X.fn x = true ∨ X.env.scope.names.lookup x = some .local) → RelV v u → Rp K F v p → BdR X K F bs ds → BdR X K F ((x, u) :: bs) ((j, p) :: ds)
def setB (sl : Slots) : List (Nat × P) → Slots
  | [] => sl
  | (j, p) :: bs => setB (sl.set j (some (.p p))) bs
section
variable {C : Kx} {pins : List (Addr × Obj)} {σ : L2.St} {H F : Hp} {s : Shared} {R : List Addr}
theorem pat_lit {z y : Str} {k p1 p2} {t : Tok} {Q : Option (List (Str × Value)) → Shared → Prop} (I : Inv C.X pins σ H s) (h : ∀ s', Inv C.X pins σ H s' → if y = z then Q (some []) s' else Q none s') : wpAny (model C.X.prog C.X.w) C.X.A (matchPattern (.MatchValue (.Constant (.str z) k p1) p2) C.X.env (.str y t)) Q C.X.xe s := by
  refine wpAny_matchPattern_Value (thn (pe_str.run pins s σ H (fun v H' => v = .str z ∧ H = H') I ⟨rfl, rfl⟩) fun u s1 ⟨v, H1, I1, r1, e1, e2⟩ => ?_)
  subst e1 e2
  refine thn (op_eq pins s1 σ H (.str y) (.str z) (.str y t) u (fun v H' => v = .bl (decide (y = z)) ∧ H = H') I1 ⟨_, rfl⟩ r1 ⟨rfl, by simp, rfl⟩) fun w s2 ⟨v, H2, I2, r2, e1, e2⟩ => ?_
  subst e1 e2
  cases r2
  refine wpAny_truthy_bool ?_
  have := h s2 I2
  by_cases hc : y = z
  · rw [if_pos hc] at this; simp [hc]; exact this
  · rw [if_neg hc] at this; simp [hc]; exact this
theorem each_ok : ∀ {pats : List Pattern} {qs : List PatE} {ps : List P} {vs : List V} {us : List Value} {r : Option (List (Nat × P))} {s : Shared} {Q : Option (List (Str × Value)) → Shared → Prop}, PatsJ C.X pats qs → matchE qs ps = some r → RpAll C.K F vs ps → Vals vs us → Inv C.X pins σ H s →
    (match r with
      | none => ∀ s', Inv C.X pins σ H s' → Q none s'
      | some ds => ∀ s' bs, Inv C.X pins σ H s' → BdR C.X C.K F bs ds → Q (some bs) s') → wpAny (model C.X.prog C.X.w) C.X.A (matchEach pats C.X.env us) Q C.X.xe s
  | [], _, ps, vs, us, r, s, Q, hp, e, hv, hu, I, h => by
    cases hp
    cases ps with
    | cons p ps => cases e
    | nil =>
      cases e
      cases hv
      cases hu
      exact wpAny_matchEach_nil (h s [] I .nil)
  | pat :: pats, _, ps, vs, us, r, s, Q, hp, e, hv, hu, I, h => by
    cases hp with
    | @cons _ q _ qs hq hqs =>
      cases ps with
      | nil => cases q <;> cases e
      | cons p ps =>
        cases hv with
        | @cons v vs _ _ hv1 hv2 =>
          cases hu with
          | @cons _ u _ us hu1 hu2 =>
            cases hq with
            | @lit z k p1 p2 =>
              cases p with
              | str y =>
                cases hv1
                obtain ⟨t, rfl⟩ := hu1
                refine wpAny_matchEach_cons (pat_lit I fun s' I' => ?_) rfl
                by_cases hc : y = z
                · rw [if_pos hc]
                  simp only [matchE, if_pos hc] at e
                  refine each_ok hqs e hv2 hu2 I' ?_
                  cases r with
                  | none => exact h
                  | some ds => exact fun s'' bs I'' hb => h s'' bs I'' hb
                · rw [if_neg hc]
                  simp only [matchE, if_neg hc] at e
                  cases e
                  exact h s' I'
              | _ => cases e
            | @cap x j p' h1 h2 h3 =>
              refine wpAny_matchEach_cons (wpAny_matchPattern_Capture ?_) rfl
              simp only [matchE] at e
              cases hm : matchE qs ps with
              | none => rw [hm] at e; cases e
              | some r' =>
                rw [hm] at e
                cases r' with
                | none =>
                  cases e
                  exact each_ok hqs hm hv2 hu2 I fun s' I' => h s' I'
                | some ds =>
                  cases e
                  exact each_ok hqs hm hv2 hu2 I fun s' bs I' hb => h s' _ I' (.cons h1 h2 h3 hu1 hv1 hb)
theorem binds_ok (hN : C.X.N.Nodup) : ∀ {bs : List (Str × Value)} {ds : List (Nat × P)} {σ : L2.St} {s : Shared} {sl : Slots} {Q : Unit → Shared → Prop}, BdR C.X C.K F bs ds → Inv C.X pins σ H s → SlR C.K C.px F R σ sl → (∀ σ' s', Inv C.X pins σ' H s' → SlR C.K C.px F R σ' (setB sl ds) → Q () s') → wpAny (model C.X.prog C.X.w) C.X.A (assignInOrder (bs.map fun (n, _) => bindName C.X.env n) (bs.map (·.2))) Q C.X.xe s
  | _, _, σ, s, sl, Q, .nil, I, hs, h => wpAny_assignInOrder_none (h σ s I hs)
  | _, _, σ, s, sl, Q, .cons (v := v) (p := p) h1 h2 h3 h4 h5 h6, I, hs, h => by
    refine wpAny_assignInOrder_more (wpAny_bindName (store_ok I hN h1 h2 h4 (fun s' I' => ?_) h3))
    exact binds_ok hN h6 I' (hs.set (show RelD C.K F R v (.p p) from h5)) h
def matchL : List (List PatE × MS) → List P → Slots → Store → Fl
  | [], _, sl, S => .nx sl S
  | (qs, b) :: cs, ps, sl, S => if ps.length = qs.length then match matchE qs ps with
      | some (some ds) => b (setB sl ds) S
      | some none => matchL cs ps sl S
      | none => .no
    else matchL cs ps sl S
inductive CasesJ (C : Kx) : List (List PatE × MS) → List MatchCase → Prop
  | nil : CasesJ C [] []
  | cons {pats : List Pattern} {qs : List PatE} {b : MS} {body : List Stmt} {cs : List (List PatE × MS)} {ms : List MatchCase} {p : Pos} : PatsJ C.X pats qs → pats.findIdx? (·.isStar) = none → (pats.all fun p => p.isWildcard || (p.isStar && p.names.isEmpty)) = false → Sj C b body → CasesJ C cs ms → CasesJ C ((qs, b) :: cs) (⟨.MatchSequence pats p, none, body⟩ :: ms)
theorem PatsJ.len {X : Cx} {pats : List Pattern} {qs : List PatE} (h : PatsJ X pats qs) : pats.length = qs.length := by
  induction h with
  | nil => rfl
  | cons _ _ ih => simp [ih]
theorem cases_ok {S : Store} {sl : Slots} {a : Addr} {vs : List V} {ps : List P} {D : Ends} (hc : C.X.calm = true) (hN : C.X.N.Nodup) {cs : List (List PatE × MS)} {ms : List MatchCase} (h : CasesJ C cs ms) : ∀ {first : Bool} {s : Shared} {H F : Hp} {R : List Addr}, Inv C.X pins σ H s → SlR C.K C.px F R σ sl → Rep C.K C.G F R S H → H a = some (.lst vs) → RpAll C.K F vs ps → PostS C F R D (matchL cs ps sl S) → wpAny (model C.X.prog C.X.w) C.X.A (matchCases ms C.X.env (.ref a) first) (SP C.X pins D) C.X.xe s := by
  induction h with
  | nil =>
    intro first s H F R I hs rep ha hv post
    exact wpAny_matchCases_nil ⟨σ, H, I, post σ F R H hs rep (Same.refl _) pre_refl⟩
  | @cons pats qs b body cs ms p hp hst hwd hb hcs ih =>
    intro first s H F R I hs rep ha hv post
    obtain ⟨its, rv, ⟨o, n, ho, hcl, hd, hdt⟩, hz⟩ := I.list (.inl (.inl ha))
    have hl : s.heap.IsList a its.toArray := ⟨o, ho, hcl, n, hdt⟩
    have hsz : its.toArray.size = ps.length := by simp [← rv.length, hv.length]
    refine wpAny_matchCases_cons (wpAny_matchPattern_Sequence (wpAny_collectionFlag hl.typeIs flag_seq_list ?_) hst hwd)
    simp only [if_true]
    have hlen : ps.length < 2 ^ 62 := by have := hv.length; rw [sizeLine_eq] at hz; omega
    refine pyLen_list hl (by rw [hsz]; omega) ?_
    rw [hsz]
    have hpl := hp.len
    simp only [matchL] at post
    by_cases hc1 : ps.length = qs.length
    · rw [if_pos hc1] at post
      have e1 : ((ps.length : Int) != (pats.length : Int)) = false := by simp; omega
      rw [e1]
      simp only [Bool.false_eq_true, if_false]
      have hl2 : (⟨s.heap, s.gens, s.drawn, s.toks + 1 + 1, s.os⟩ : Shared).heap.IsList a its.toArray := hl
      have hun := fun Q hQ => PySem.W.kun_itemsOf (prog := C.X.prog) (w := C.X.w) (A := C.X.A) (E := C.X.xe) (s := { s with toks := s.toks + 1 + 1 }) (Q := Q) (I.ok.hd hc) hl hQ
      rw [show pats.length = its.toArray.size by omega]
      refine hun _ fun h' he => ?_
      have I1 : Inv C.X pins σ H { s with heap := h', toks := s.toks + 1 + 1 } := (I.tok (s.toks + 1 + 1)).kept (t' := s.toks + 1 + 1) fun b o e => he b o (Nat.ne_of_lt (Heap.lt_size e)) e
      cases hm : matchE qs ps with
      | none => rw [hm] at post; exact post.elim
      | some r =>
        rw [hm] at post
        refine each_ok (vs := vs) hp hm hv (by simpa using rv) I1 ?_
        cases r with
        | none => exact fun s' I' => ih I' hs rep ha hv post
        | some ds =>
          intro s' bs I' hbd
          refine binds_ok hN hbd I' hs fun σ' s2 I2 hs2 => ?_
          exact (hb (setB sl ds) S σ' F R H hs2 rep D post) pins s2 I2
    · rw [if_neg hc1] at post
      have e1 : ((ps.length : Int) != (pats.length : Int)) = true := by simp; omega
      rw [e1]
      simp only [if_true]
      exact ih (I.tok _) hs rep ha hv post
def sMatch (m : M) (cs : List (List PatE × MS)) : MS := fun sl S => (m sl S).st sl fun d S1 => match view S1 d with
  | some (.lst ps) => matchL cs ps sl S1
  | _ => .no
theorem sj_match {m : M} {e : Expr} {cs : List (List PatE × MS)} {ms : List MatchCase} {pos : Pos} (hc : C.X.calm = true) (hN : C.X.N.Nodup) (h0 : Ej C m e) (h : CasesJ C cs ms) : Sj1 C (sMatch m cs) (.Match e ms pos) := .mk fun sl S σ F R H hs hr D post => by
  intro pins s I
  refine wpAny_Match (thn ((h0 sl S σ F R H hs hr (fun x H1 => ∃ a S1 F1 R1 vs ps, x = .ref a ∧ H1 a = some (.lst vs) ∧ RpAll C.K F1 vs ps ∧ SlR C.K C.px F1 R1 σ sl ∧ Rep C.K C.G F1 R1 S1 H1 ∧ PostS C F1 R1 D (matchL cs ps sl S1)) (PostS.bind post hs fun d S1 x F1 R1 H1 _ rx rep1 s1 r1 hs1 post1 => by
    cases hv : view S1 d with
    | none => simp only [hv] at post1; exact post1.elim
    | some q =>
      cases q with
      | lst ps =>
        simp only [hv] at post1
        obtain ⟨a, vs, rfl, h1, h2⟩ := (view_vw rx rep1 hv).lstE rep1.sub
        exact ⟨a, S1, F1, R1, vs, ps, rfl, h1, h2, hs1, rep1, post1⟩
      | _ => simp only [hv] at post1; exact post1.elim)) pins s I) fun u s1 hu => ?_)
  obtain ⟨x, H1, I1, r1, a, S1, F1, R1, vs, ps, rfl, h1, h2, h3, h4, h5⟩ := hu
  cases r1
  exact cases_ok hc hN h I1 h3 h4 h1 h2 h5
end
end Z

namespace Z
open PySem PySem.Spec PyProof.Rows L2
/-! ### == and != by an own __eq__ -/
section
variable {prog : Program} {w : World} {A : Around} {E : Value → Shared → Prop} {s : Shared} {K : PySem.W.Frag} {x C L f : Addr} {h₀ : Heap} {m : Str → Option Value} {ox : Obj} {od : Option Obj} {name : Str} {b tb : Value}
theorem ifBoundB {M : Model} {B id : String} {args : List Value} {Q : Option Value → Shared → Prop} (X : K.In s.heap) (I : PySem.W.InstAt s.heap x ox C od) (Sl : Slot B name id) (hs : PySem.W.findIn K (.ref C) name = some (some (.builtin id)))
    (h : wpAny M A (call (.builtin id) (.ref x :: args)) (fun v => Q (some v)) E s) : wpAny M A (callSpecialIfBound? (.ref x) name args) Q E s := by
  simp only [callSpecialIfBound?, bindSpecialIfBound?]
  refine wpAny_holding (wpAny_bind (wpAny_bind (wpAny_bind (I.type.here ((PySem.W.looks_findIn X hs).here ?_)))))
  simp only [Sl.bind]
  refine wpAny_bind (wpAny_askSetting (wpAny_ite ?_))
  have fin : wpAny M A (call (.builtin id) ([.ref x] ++ args) >>= fun v => pure (some v)) Q E s := wpAny_bind (wpAny_mono h (fun v s' h' => wpAny_pure h') fun _ _ h' => h')
  split
  · exact wpAny_bind (wpAny_pure (wpAny_pure fin))
  · exact wpAny_tryCatch (wpAny_bind (wpAny_pure (wpAny_pure fin)))
theorem ne_entry {Q : Fin → Shared → Prop} (hu : A.units < cLine) (X : K.In s.heap) (I : PySem.W.InstAt s.heap x ox C od) (he : PySem.W.findIn K (.ref C) "__eq__" = some (some (.ref f))) (hf : PySem.W.isFn K (.ref f) = true)
    (h : wpAny (model prog w) A (call (.ref f) [.ref x, b]) (fun v s' => ∃ k, v = .bool k ∧ Q (.done (.ret (.bool (!k)))) s') E s) : wpAny (model prog w) A (Builtin.«object.__ne__» ⟨[.ref x, b], []⟩) Q E s := by
  unfold Builtin.«object.__ne__»
  repeat (first
    | with_reducible refine wpAny_cRoomFor hu ?_
    | (refine wpAny_bind (m := callSpecialIfBound? (.ref x) (Str.ofString "__eq__") [b])
        (PySem.W.ifBound_K X I he hf (wpAny_mono h (fun r s' hr => by
          obtain ⟨k, rfl, hq⟩ := hr
          repeat (first | exact hq | exact wpAny_pure hq | exact wpAny_truthy_bool hq | (refine wpAny_bind (m := truthy (.bool _)) (wpAny_truthy_bool ?_)) | wp_step)) fun _ _ e => e)))
    | wp_step)
theorem ne_K {Q : Value → Shared → Prop} (hu : A.units + 1 < cLine) (X : K.In s.heap) (I : PySem.W.InstAt s.heap x ox C od) (hb : PySem.W.Looks (model prog w) s.heap (typeOf b) tb) (hn : PySem.W.notFirst K C tb = true) (ho : PySem.W.mroIn K C (.type "object") = some true)
    (hs : PySem.W.findIn K (.ref C) "__ne__" = some (some (.builtin "object.__ne__"))) (he : PySem.W.findIn K (.ref C) "__eq__" = some (some (.ref f))) (hf : PySem.W.isFn K (.ref f) = true)
    (h : wpAny (model prog w) A.in1 (call (.ref f) [.ref x, b]) (fun v s' => ∃ k, v = .bool k ∧ Q (.bool (!k)) s') E s) : wpAny (model prog w) A (richCompare .NotEq (.ref x) b) Q E s := by
  have sub : PySem.W.Looks (model prog w) s.heap (isInstance (.ref x) (.type "object")) true := I.type.andThen (PySem.W.looks_mroIn X ho)
  have one : wpAny (model prog w) A (tryCompare (.ref x) "__ne__" b) (fun r s' => ∃ v, r = some v ∧ Q v s') E s := by
    unfold tryCompare
    refine wpAny_bind (ifBoundB X I PySem.F.cmp_object.ne hs (wpAny_call (codeAny_call_builtin PySem.F.cmp_object.ne.plain PySem.F.cmpEntry_ne (PySem.W.check_slot PySem.F.cmpKind_ne PySem.F.cmpSplit_ne sub (PySem.F.cmpArgs_ne _ _) ?_))))
    refine ne_entry (A := A.in1) hu X I he hf (wpAny_mono h (fun v s' hv => ?_) fun _ _ e => e)
    obtain ⟨k, rfl, hq⟩ := hv
    exact ⟨k, rfl, wpAny_pure ⟨_, rfl, hq⟩⟩
  unfold richCompare
  simp only [oneThing_ref]
  refine wpAny_holding (wpAny_bind (wpAny_cRoomFor (Nat.lt_of_succ_lt hu) ?_))
  refine wpAny_bind (I.type.here (wpAny_bind (hb.here ?_)))
  split
  · rename_i q
    have e : PySem.W.subIn K tb (.ref C) = some false := by
      rcases Bool.or_eq_true_iff.mp hn with e | e
      · rw [beq_iff_eq.mp e] at q; simp at q
      · exact beq_iff_eq.mp e
    refine wpAny_bind ((PySem.W.looks_subIn X e).here ?_)
    simp only [Bool.false_eq_true, if_false]
    refine wpAny_bind (wpAny_mono one (fun r s' z => ?_) fun _ _ e => e)
    obtain ⟨v, rfl, hq⟩ := z
    exact wpAny_pure hq
  · refine wpAny_bind (wpAny_pure ?_)
    simp only [Bool.false_eq_true, if_false]
    refine wpAny_bind (wpAny_mono one (fun r s' z => ?_) fun _ _ e => e)
    obtain ⟨v, rfl, hq⟩ := z
    exact wpAny_pure hq
end
/-! the words of a class with an own __eq__ -/
structure EqC (K : PySem.W.Frag) (C f : Addr) : Prop where
  eq : PySem.W.findIn K (.ref C) "__eq__" = some (some (.ref f))
  ne : PySem.W.findIn K (.ref C) "__ne__" = some (some (.builtin "object.__ne__"))
  fn : PySem.W.isFn K (.ref f) = true
  ob : PySem.W.mroIn K C (.type "object") = some true
def rEqO (C : Addr) (sp : Sp) (neg : Bool) : R2 := fun x y H Q => ∃ a b dx dy fs gs, x = .ref a ∧ y = .ref b ∧ H a = some (.ins C dx fs) ∧ H b = some (.ins C dy gs) ∧ sp [x, y] H (fun v H' => ∃ k, v = .bl k ∧ Q (.bl (if neg then !k else k)) H') (fun _ _ _ => False)
section
variable {X : Cx} {k : Nat} {f C : Addr} {fd : FuncData} {ps : List Str} {sp : Sp}
theorem run_eq {A : Around} {pins : List (Addr × Obj)} {σ : L2.St} {H : Hp} {s : Shared} {Q : VK} {a b : Addr} (F : FnOk X.prog X.w X.K X.mg X.base (L2.CX X.prog X.w) k f fd ps sp) (hr : Room k A) (hA : A.frames = X.A.frames) (hb : Binds X.K fd ps []) (I : Inv X pins σ H s) (h : sp [.ref a, .ref b] H Q (fun _ _ _ => False)) :
    wpAny (model X.prog X.w) A (call (.ref f) [.ref a, .ref b]) (EP X pins σ Q) X.xe s := by
  have e0 : Env0 X.prog X.w X.K X.mg X.base A X.stack s H := by
    have e := I.env0
    exact ⟨by rw [hA]; exact e.frames, e.mod, e.bs, e.bsz, e.funs, e.frf, e.hok, e.bare⟩
  have hl := F.len _ _ _ _ h
  have r2 : Vals [V.ref a, V.ref b] [Value.ref a, Value.ref b] := .cons rfl (.cons rfl .nil)
  refine wpAny_call (codeAny_mono (F.run A X.stack s H ⟨[.ref a, .ref b], []⟩ [.ref a, .ref b] [.ref a, .ref b] _ _ hr e0 (by
    have := hb s [.ref a, .ref b] I.kIn (by simpa using hl)
    simpa using this) r2 h) fun r s' hq => ?_)
  cases r with
  | error e =>
    obtain ⟨_, _, _, _, _, _, _, _, _, _, _, _, z⟩ := hq
    exact z.elim
  | ok fl =>
    cases fl with
    | ret w => exact I.after hq
    | next => exact False.elim hq
    | brk => exact False.elim hq
    | cont => exact False.elim hq
theorem op_eqO (c : EqC X.K C f) (F : FnOk X.prog X.w X.K X.mg X.base (L2.CX X.prog X.w) k f fd ps sp) (hr : Room k X.A) (hb : Binds X.K fd ps []) : OpR X (compareOp .Eq) (rEqO C sp false) := by
  intro pins s σ H x y u v Q I rx ry d
  obtain ⟨a, b, dx, dy, fs, gs, rfl, rfl, ha, hb', h⟩ := d
  cases rx
  cases ry
  obtain ⟨mA, J, _⟩ := ins_get I.hok ha
  obtain ⟨mB, J', _⟩ := ins_get I.hok hb'
  obtain ⟨od, J, _⟩ := J.look
  obtain ⟨od', J', _⟩ := J'.look
  obtain ⟨m, hF⟩ := I.fr
  show wpAny (model X.prog X.w) X.A (richCompare .Eq (.ref a) (.ref b)) (EP X pins σ Q) X.xe s
  refine PySem.W.cmp_K (op := .Eq) (tb := .ref C) hr.units0 hF I.ok.mod.kin J J'.type (by simp [PySem.W.notFirst]) c.eq c.fn ?_
  refine thn (run_eq F hr rfl hb I h) fun w s' ⟨z, H', I', rz, q, ez, hq⟩ => ?_
  subst ez
  cases rz
  exact ⟨V.bl q, H', I', rfl, hq⟩
theorem op_neO (c : EqC X.K C f) (F : FnOk X.prog X.w X.K X.mg X.base (L2.CX X.prog X.w) k f fd ps sp) (hr : Room (k + 1) X.A) (hb : Binds X.K fd ps []) : OpR X (compareOp .NotEq) (rEqO C sp true) := by
  intro pins s σ H x y u v Q I rx ry d
  obtain ⟨a, b, dx, dy, fs, gs, rfl, rfl, ha, hb', h⟩ := d
  cases rx
  cases ry
  obtain ⟨mA, J, _⟩ := ins_get I.hok ha
  obtain ⟨mB, J', _⟩ := ins_get I.hok hb'
  obtain ⟨od, J, _⟩ := J.look
  obtain ⟨od', J', _⟩ := J'.look
  show wpAny (model X.prog X.w) X.A (richCompare .NotEq (.ref a) (.ref b)) (EP X pins σ Q) X.xe s
  refine ne_K (tb := .ref C) (by have := hr.units; omega) I.kIn J J'.type (by simp [PySem.W.notFirst]) c.ob c.ne c.eq c.fn ?_
  refine thn (run_eq F hr.in1 rfl hb I h) fun w s' ⟨z, H', I', rz, q, ez, hq⟩ => ?_
  subst ez
  cases rz
  exact ⟨q, rfl, V.bl (!q), H', I', rfl, hq⟩
end
/-- == or !=: by f where both are of the class cn -/
def eqG (cn : Str) (f : Fn) (neg : Bool) (d1 d2 : D) (S : Store) : Rs D := match insOf S d1, insOf S d2 with
  | some (c1, _, _), some (c2, _, _) => if c1 = cn ∧ c2 = cn then match f [d1, d2] S with
      | .ok (.p (.bl k)) S' => .ok (.p (.bl (if neg then !k else k))) S'
      | _ => .no
    else .no
  | _, _ => lift2 (if neg then opNe else opEq) d1 d2 S
def eEqX (cn : Str) (f : Fn) (neg : Bool) (m1 m2 : M) : M := fun sl S => (m1 sl S).bind fun d1 S1 => (m2 sl S1).bind fun d2 S2 => eqG cn f neg d1 d2 S2
section
variable {C : Kx} {a b e : Expr} {pos p : Pos} {x cn : Str} {m1 m2 : M} {fn : Fn} {k : Nat} {f : Addr}
theorem eqG_post {neg : Bool} {σ : L2.St} {F H : Hp} {R : List Addr} {S : Store} {d1 d2 : D} {x y : V} {Q : VK} (rx : RelD C.K F R x d1) (ry : RelD C.K F R y d2) (rep : Rep C.K C.G F R S H)
    (post : Post C σ F R (RelD C.K) Q (eqG cn fn neg d1 d2 S)) : (if neg then rNeD C.X.K else rEqD C.X.K) x y H Q ∨ rEqO (He.ga C.X.K cn) (spF C.K 2 fn) neg x y H Q := by
  unfold eqG at post
  split at post
  · rename_i c1 k1 v1 c2 k2 v2 h1 h2
    by_cases hc : c1 = cn ∧ c2 = cn
    · rw [if_pos hc] at post
      obtain ⟨rfl, rfl⟩ := hc
      obtain ⟨a1, dx, fs, rfl, ea, _, _⟩ := insOf_at rx rep h1
      obtain ⟨a2, dy, gs, rfl, eb, _, _⟩ := insOf_at ry rep h2
      right
      refine ⟨a1, a2, dx, dy, fs, gs, rfl, rfl, ea, eb, rfl, C.G, F, R, S, [d1, d2], rep, .cons rx (.cons ry .nil), ?_⟩
      cases hf : fn [d1, d2] S with
      | no => rw [hf] at post; exact post.elim
      | exc _ _ => rw [hf] at post; exact post.elim
      | ok d S' =>
        rw [hf] at post
        cases d with
        | ref n => exact post.elim
        | p q =>
          cases q with
          | bl kk =>
            intro v F' R' H' h3 h4 h5 h6
            cases (show Rp C.K F' v (.bl kk) from h3)
            exact ⟨kk, rfl, post _ F' R' H' (show RelD C.K F' R' (.bl (if neg then !kk else kk)) (.p (.bl (if neg then !kk else kk))) from .bl _) h4 h5 h6⟩
          | _ => exact post.elim
    · rw [if_neg hc] at post; exact post.elim
  · left
    cases neg with
    | true => exact lift2_post rfl bv_ne rx ry rep post
    | false => exact lift2_post rfl bv_eq rx ry rep post
theorem ej_eqX (c : EqC C.X.K (He.ga C.X.K cn) f) (hF : C.form k f fn 2 []) (hr : Room (k + 1) C.X.A) (h1 : Ej C m1 a) (h2 : Ej C m2 b) (hm : behindInMarks .Eq b = false := by first | exact nomark _ | rfl) : Ej C (eEqX cn fn false m1 m2) (.Compare a [.Eq] [b] pos) := by
  obtain ⟨fd, ps, ds, dvs, g1, g2, g3, g4⟩ := hF
  have hd : dvs = [] := by cases (g4 fun _ => none); rfl
  subst hd
  cases g3
  exact .mk fun sl S σ F R H hs hr' Q post =>
    ED.of (pe_cmpR (OpR.or (op_eqD hr.units) (op_eqO c g1 (hr.mono (Nat.le_succ _)) g2)) pe_d pe_d hm) (h1 sl S σ F R H hs hr' _ (Post.bind post fun d1 S1 x F1 R1 H1 _ rx rep1 s1 r1 post1 => h2 sl S1 σ F1 R1 H1 (hs.mono s1 r1) rep1 _ (Post.bind post1 fun d2 S2 y F2 R2 H2 _ ry rep2 s2 r2 post2 => eqG_post (neg := false) (rx.mono s2 r2) ry rep2 post2)))
theorem ej_neX (c : EqC C.X.K (He.ga C.X.K cn) f) (hF : C.form k f fn 2 []) (hr : Room (k + 1) C.X.A) (h1 : Ej C m1 a) (h2 : Ej C m2 b) (hm : behindInMarks .NotEq b = false := by first | exact nomark _ | rfl) : Ej C (eEqX cn fn true m1 m2) (.Compare a [.NotEq] [b] pos) := by
  obtain ⟨fd, ps, ds, dvs, g1, g2, g3, g4⟩ := hF
  have hd : dvs = [] := by cases (g4 fun _ => none); rfl
  subst hd
  cases g3
  exact .mk fun sl S σ F R H hs hr' Q post =>
    ED.of (pe_cmpR (OpR.or (op_neD hr.units) (op_neO c g1 hr g2)) pe_d pe_d hm) (h1 sl S σ F R H hs hr' _ (Post.bind post fun d1 S1 x F1 R1 H1 _ rx rep1 s1 r1 post1 => h2 sl S1 σ F1 R1 H1 (hs.mono s1 r1) rep1 _ (Post.bind post1 fun d2 S2 y F2 R2 H2 _ ry rep2 s2 r2 post2 => eqG_post (neg := true) (rx.mono s2 r2) ry rep2 post2)))
/-! as tests -/
theorem asB_post {σ : L2.St} {F : Hp} {R : List Addr} {S : Store} {sl : Slots} {m : M} {Q : Bool → Hp → Prop} (post : Post C σ F R rB Q ((m sl S).bind asB)) : Post C σ F R (RelD C.K) (fun x H' => ∃ k, x = .bl k ∧ Q k H') (m sl S) :=
  Post.bind post fun d S1 x F1 R1 H1 _ rx rep1 s1 r1 post1 => by
    cases d with
    | ref n => exact post1.elim
    | p q =>
      cases q with
      | bl kk =>
        cases (show Rp C.K F1 x (.bl kk) from rx)
        exact ⟨kk, rfl, post1.okv rfl rep1⟩
      | _ => exact post1.elim
def tEqX (cn : Str) (f : Fn) (neg : Bool) (m1 m2 : M) : MT := fun sl S => (eEqX cn f neg m1 m2 sl S).bind asB
theorem tj_eqX (c : EqC C.X.K (He.ga C.X.K cn) f) (hF : C.form k f fn 2 []) (hr : Room (k + 1) C.X.A) (h1 : Ej C m1 a) (h2 : Ej C m2 b) (hm : behindInMarks .Eq b = false := by first | exact nomark _ | rfl) : Tj C (tEqX cn fn false m1 m2) (.Compare a [.Eq] [b] pos) := by
  obtain ⟨fd, ps, ds, dvs, g1, g2, g3, g4⟩ := hF
  have hd : dvs = [] := by cases (g4 fun _ => none); rfl
  subst hd
  cases g3
  exact .mk fun sl S σ F R H hs hr' Q post =>
    TD.of (pt_cmpR (OpR.or (op_eqD hr.units) (op_eqO c g1 (hr.mono (Nat.le_succ _)) g2)) pe_d pe_d hm) (h1 sl S σ F R H hs hr' _ (Post.bind (asB_post post) fun d1 S1 x F1 R1 H1 _ rx rep1 s1 r1 post1 => h2 sl S1 σ F1 R1 H1 (hs.mono s1 r1) rep1 _ (Post.bind post1 fun d2 S2 y F2 R2 H2 _ ry rep2 s2 r2 post2 => eqG_post (neg := false) (rx.mono s2 r2) ry rep2 post2)))
theorem tj_neX (c : EqC C.X.K (He.ga C.X.K cn) f) (hF : C.form k f fn 2 []) (hr : Room (k + 1) C.X.A) (h1 : Ej C m1 a) (h2 : Ej C m2 b) (hm : behindInMarks .NotEq b = false := by first | exact nomark _ | rfl) : Tj C (tEqX cn fn true m1 m2) (.Compare a [.NotEq] [b] pos) := by
  obtain ⟨fd, ps, ds, dvs, g1, g2, g3, g4⟩ := hF
  have hd : dvs = [] := by cases (g4 fun _ => none); rfl
  subst hd
  cases g3
  exact .mk fun sl S σ F R H hs hr' Q post =>
    TD.of (pt_cmpR (OpR.or (op_neD hr.units) (op_neO c g1 hr g2)) pe_d pe_d hm) (h1 sl S σ F R H hs hr' _ (Post.bind (asB_post post) fun d1 S1 x F1 R1 H1 _ rx rep1 s1 r1 post1 => h2 sl S1 σ F1 R1 H1 (hs.mono s1 r1) rep1 _ (Post.bind post1 fun d2 S2 y F2 R2 H2 _ ry rep2 s2 r2 post2 => eqG_post (neg := true) (rx.mono s2 r2) ry rep2 post2)))
end
/-! ### try, where nothing is raised -/
def Kx.trN (C : Kx) (pn : List (Addr × Obj)) (xe : Value → Shared → Prop) : Kx := ⟨C.X.tr pn xe, fun _ _ _ _ => False, fun _ _ ⟨_, _, _, _, _, _, _, _, _, _, _, _, _, _, _, _, z⟩ => z.elim, C.G, C.px⟩
def sTryN (mb : MS) : MS := fun sl S => match mb sl S with
  | .exc _ _ _ => .no
  | r => r
theorem sj_tryN {C : Kx} {mb : MS} {body : List Stmt} {h₀ : ExceptHandler} {hs₀ : List ExceptHandler} {pos : Pos} (hb : ∀ pn xe, Sj (C.trN pn xe) mb body) : Sj1 C (sTryN mb) (.Try body (h₀ :: hs₀) [] [] pos) := .mk fun sl S σ F R H hs hr D post => by
  intro pins s I
  have ok := I.ok
  have post' : ∀ pn xe, PostS (C.trN pn xe) F R D (mb sl S) := fun pn xe => by
    unfold sTryN at post
    cases hm : mb sl S with
    | exc _ _ _ => rw [hm] at post; exact post.elim
    | nx _ _ => rw [hm] at post; exact post
    | rt _ _ => rw [hm] at post; exact post
    | bk _ _ => rw [hm] at post; exact post
    | ct _ _ => rw [hm] at post; exact post
    | no => rw [hm] at post; exact post
  refine wpAny_Try_except ?_
  refine wpAny_mono ((hb (C.X.pn ++ pins) _ sl S σ F R H hs hr D (post' _ _)) [] s (I.toTry _)) (fun f s1 hsp => ?_) (fun e s1 he => he)
  cases f with
  | next =>
    obtain ⟨σ', H', J', q⟩ := hsp
    exact wpAny_execs_nil ⟨σ', H', J'.ofTry ok, q⟩
  | brk =>
    obtain ⟨σ', H', J', q⟩ := hsp
    exact ⟨σ', H', J'.ofTry ok, q⟩
  | cont =>
    obtain ⟨σ', H', J', q⟩ := hsp
    exact ⟨σ', H', J'.ofTry ok, q⟩
  | ret u =>
    obtain ⟨v, σ', H', J', r, q⟩ := hsp
    exact ⟨v, σ', H', J'.ofTry ok, r, q⟩
end Z

namespace Z
open PySem PySem.Spec PyProof.Rows L2
/-! ### isinstance with classes of the program -/
inductive KTy where
  | ty (n : String)
  | glo (c : Str)
deriving DecidableEq
def KTy.v (K : PySem.W.Frag) : KTy → Value
  | .ty n => .type n
  | .glo c => .ref (He.ga K c)
abbrev IsT := List (KTy × Str × Bool)
/-- an instance's class answers as usual -/
structure InsK (K : PySem.W.Frag) (C : Addr) : Prop where
  cl : Cls K C
  ha : PySem.W.findIn K (.ref C) "__class__" = some (some (.builtin "object.__class__"))
  hn : PySem.W.specialIn K (.builtin "object.__class__") "__get__" = some (some (.builtin "getset_descriptor.__get__"))
  tk : PySem.W.takesIn K (.builtin "object.__class__") = some true
  hm : PySem.W.mroIn K C (.type "object") = some true
structure IsOk (K : PySem.W.Frag) (tab : IsT) (cs : List Str) : Prop where
  is : ∀ q ∈ tab, PySem.W.kitOne K (q.1.v K) (.ref (He.ga K q.2.1)) = some q.2.2
  ins : ∀ c ∈ cs, InsK K (He.ga K c)
def isTabB (K : PySem.W.Frag) (tab : IsT) : Bool := tab.all fun q => decide (PySem.W.kitOne K (q.1.v K) (.ref (He.ga K q.2.1)) = some q.2.2)
def insKB (K : PySem.W.Frag) (C : Addr) : Bool := He.eqO (PySem.W.findIn K (.ref C) "__class__") (some (some (.builtin "object.__class__"))) && (He.eqO (PySem.W.specialIn K (.builtin "object.__class__") "__get__") (some (some (.builtin "getset_descriptor.__get__"))) && (decide (PySem.W.takesIn K (.builtin "object.__class__") = some true) && decide (PySem.W.mroIn K C (.type "object") = some true)))
theorem insK_of {K : PySem.W.Frag} {C : Addr} (c : Cls K C) (h : insKB K C = true) : InsK K C := by
  obtain ⟨h1, h⟩ := He.ba h
  obtain ⟨h2, h⟩ := He.ba h
  obtain ⟨h3, h4⟩ := He.ba h
  exact ⟨c, He.eqO_ok h1, He.eqO_ok h2, of_decide_eq_true h3, of_decide_eq_true h4⟩
def ktP (cs : List Str) : P → Option KTy
  | .ins c _ _ => if c ∈ cs then some (.glo c) else none
  | p => if plainP p = true then some (.ty (tyP p)) else none
def isiO (tab : IsT) (cs : List Str) : List P → Option P
  | [p, .glo c] => match ktP cs p with
    | some t => (tab.find? fun q => decide (q.1 = t ∧ q.2.1 = c)).map fun q => .bl q.2.2
    | none => none
  | [p, .ty n] => isiP [p, .ty n]
  | _ => none
section
variable {C : Kx} {a b c e o : Expr} {es rest : List Expr} {pos p apos : Pos} {x m cn : Str} {ma : MA} {mo : M} {fn : Fn} {k n : Nat} {dfl : List P} {f : Addr} {K : Fr} {tab : IsT} {cs : List Str}
theorem kt_tyx {F H : Hp} {v : V} {q : P} {t : KTy} (ok : IsOk K.K tab cs) (s : Same F H) (h : Vw K F H v q) (e : ktP cs q = some t) : TyX K.K H v (t.v K.K) := by
  have plain : plainP q = true → t = .ty (tyP q) → TyX K.K H v (t.v K.K) := fun hp et => by subst et; exact rp_tyx (h.rd s) hp
  cases q with
  | ins c ks ps =>
    simp only [ktP] at e
    obtain ⟨hc, rfl⟩ := if_some e
    have I := ok.ins c hc
    cases h with
    | p h =>
      cases h with
      | ins h1 h2 h3 h4 => exact .base (.ins (s _ _ h1) I.cl I.ha I.hn I.tk I.hm)
    | ins h1 h2 h3 h4 => exact .base (.ins h1 I.cl I.ha I.hn I.tk I.hm)
  | _ =>
    simp only [ktP] at e
    obtain ⟨hc, rfl⟩ := if_some e
    exact plain hc rfl
theorem cv_isiO (ok : IsOk K.K tab cs) : CallV K (rIsi K.K) (isiO tab cs) := fun ps z vs F H Q e hx s k => by
  unfold isiO at e
  split at e
  · rename_i q c
    obtain ⟨v, w, rfl, h1, h2⟩ := vw2 hx
    cases ht : ktP cs q with
    | none => rw [ht] at e; cases e
    | some t =>
      simp only [ht] at e
      cases hf : tab.find? (fun q => decide (q.1 = t ∧ q.2.1 = c)) with
      | none => rw [hf] at e; cases e
      | some r =>
        rw [hf] at e
        cases e
        have hr := of_decide_eq_true (List.find?_some (p := fun q : KTy × Str × Bool => decide (q.1 = t ∧ q.2.1 = c)) hf)
        have hk := ok.is r (List.mem_of_find?_eq_some hf)
        rw [hr.1, hr.2] at hk
        have hw : w = .ref (He.ga K.K c) := by cases h2 with | p h => cases h; rfl
        subst hw
        exact ⟨v, _, _, _, r.2.2, rfl, .own _, kt_tyx ok s h1 ht, hk, k _ F H (.bl _) (Grow.refl s)⟩
  · exact cv_isi _ z vs F H Q e hx s k
  · cases e
theorem ej_isiO (ok : IsOk C.X.K tab cs) (hm : C.X.mg "isinstance" = none) (h : Aj C ma (e :: es)) (hg : Gl C.X "isinstance" := by rfl) (he : Se C e es := by exact se_of rfl) (hpl : Pl C es pos := by exact pl_of rfl) : Ej C (eF (isiO tab cs) ma) (.Call (.Name "isinstance" p) (e :: es) [] pos) := ej_callB call_isi (cv_isiO ok) hm (by decide +kernel) h hg (he := he) (hpl := hpl)
/-! ### classmethods -/
theorem pe_cmethS {X : Cx} {CX : CXT} {C p g : Addr} {mc : Value} {sp : Sp} {E : L2.St → XK} {ta : TE} {t : TA} {k : Nat} {m : Str} {pos apos : Pos} {o e : Expr} {es : List Expr} {pl : Sem Bool} (he : PE X o ta) (r : ClX.CRead X.K C mc) (c : ClX.CMet X.K C mc m p g) (F : FnR X.prog X.w X.K X.mg X.base CX k g sp) (hr : Room k X.A) (hx : ∀ σ, PassesAt CX X σ (E σ)) (ha : PA X (e :: es) t)
    (hst : starEach (e :: es) X.env = (false, eval e X.env) :: starEach es X.env := by exact se_of rfl) (hpl : (backTo pos (starEach es X.env)).any (·.1) = false := by exact pl_of rfl)
    (ht : eval (.Call (.Attribute o m apos) (e :: es) [] pos) X.env = (do
      let ov ← eval o X.env
      standAt apos.atName
      let (f, first) ← holding [ov] (getMethod ov m pl)
      callWith pos f first (backTo pos (starEach (e :: es) X.env)) (backToKw pos (keywordEach [] X.env))) := by rfl) :
    PE X (.Call (.Attribute o m apos) (e :: es) [] pos) (fun σ H Q => ta σ H fun x H1 => x = .ref C ∧ t σ H1 fun vs H2 => sp (.ref C :: vs) H2 Q (E σ)) := by
  refine ⟨fun pins s σ H Q I h => ?_⟩
  refine PySem.W.methodCall_KW (pl := pl) (thn (he.run pins s σ H _ I h) fun u s1 ⟨x, H1, I1, rx, ex, q⟩ => ?_) ht
  subst ex
  obtain rfl : u = Value.ref C := rx
  refine ClX.getmethcm_ok I1 r c fun s2 I2 => ?_
  refine ClX.callwith_cm I2 (ClX.base_none I1 (Nat.le_refl _)) c.fi (thn (ha.run pos _ s2 σ H1 _ I2 q) fun us s3 ⟨vs, H2, I3, rv, q2⟩ => ⟨⟨ClX.pin_at I3, I3.kIn⟩, ?_⟩) hst hpl
  have z : wpAny (model X.prog X.w) X.A (call (.ref s1.heap.objs.size) us) (EP X ((s1.heap.objs.size, PySem.W.methodObj (.ref g) (.ref C)) :: pins) σ Q) X.xe s3 := by
    refine wpAny_call (PySem.W.method_call (ClX.pin_at I3) (codeAny_mono (F X.A X.stack s3 H2 (.ref C :: us) (.ref C :: vs) Q (E σ) hr I3.env0 (.cons rfl rv) q2) fun r s' hq => ?_))
    cases r with
    | error e => exact hx σ _ H2 s3 e s' I3 hq
    | ok fl =>
      cases fl with
      | ret u => exact I3.after hq
      | next => exact False.elim hq
      | brk => exact False.elim hq
      | cont => exact False.elim hq
  exact thn z fun _ _ y => ClX.unpinE y
def eCMeth (cn : Str) (n : Nat) (dfl : List P) (f : Fn) (mo : M) (ma : MA) : M := fun sl S => (mo sl S).bind fun d S1 => match d with
  | .p (.glo c) => if c = cn then (ma sl S1).bind fun ds S2 => if ds.length = n then f (.p (.glo cn) :: (ds ++ dfl.map .p)) S2 else .no else .no
  | _ => .no
theorem ej_cmeth {g pc : Addr} {mc : Value} {pl : Sem Bool} (r : ClX.CRead C.X.K (He.ga C.X.K cn) mc) (c : ClX.CMet C.X.K (He.ga C.X.K cn) mc m pc g) (hF : C.form k g fn (n + 1) dfl) (hr : Room k C.X.A) (h1 : Ej C mo o) (h2 : Aj C ma (e :: es)) (he : Se C e es := by exact se_of rfl) (hpl : Pl C es pos := by exact pl_of rfl)
    (ht : eval (.Call (.Attribute o m apos) (e :: es) [] pos) C.X.env = (do
      let ov ← eval o C.X.env
      standAt apos.atName
      let (f, first) ← holding [ov] (getMethod ov m pl)
      callWith pos f first (backTo pos (starEach (e :: es) C.X.env)) (backToKw pos (keywordEach [] C.X.env))) := by rfl) : Ej C (eCMeth cn n dfl fn mo ma) (.Call (.Attribute o m apos) (e :: es) [] pos) := .mk fun sl S σ F R H hs hr' Q post => by
  obtain ⟨fd, ps, ds, dvs, g1, g2, g3, g4⟩ := hF
  refine ED.of (pe_cmethS (pl := pl) pe_d r c (g1.raw g2 g3) hr (fun σ => passAt C.tk σ) pa_d he hpl ht) (h1 sl S σ F R H hs hr' _ (Post.bind post fun d S1 v F1 R1 H1 _ rv rep1 s1 r1 post1 => ?_))
  cases d with
  | ref n => exact post1.elim
  | p q =>
    cases q with
    | glo c' =>
      cases (show Rp C.K F1 v (.glo c') from rv)
      simp only [] at post1
      by_cases hc : c' = cn
      · rw [if_pos hc] at post1
        subst hc
        refine ⟨rfl, h2 sl S1 σ F1 R1 H1 (hs.mono s1 r1) rep1 _ (Post.bind post1 fun ds' S2 vs F2 R2 H2 _ rd rep2 s2 r2 post2 => ?_)⟩
        by_cases hl : ds'.length = n
        · rw [if_pos hl] at post2
          have rr := rd.append (RelAll.of_p (R := R2) (g4 F2))
          exact ⟨by rw [List.cons_append, List.length_cons, rr.length, len_app hl]; omega, C.G, F2, R2, S2, _, rep2, .cons (show RelD C.K F2 R2 (.ref (He.ga C.X.K c')) (.p (.glo c')) from .glo c') rr, post_of post2⟩
        · rw [if_neg hl] at post2; exact post2.elim
      · rw [if_neg hc] at post1; exact post1.elim
    | _ => exact post1.elim
/-! ### C(..), C held by a local -/
def eMakeL (cn : Str) (n : Nat) (dfl : List P) (f : Fn) (i : Nat) (ma : MA) : M := fun sl S => match sl[i]? with
  | some (some (.p (.glo c))) => if c = cn then eMake cn n dfl f ma sl S else .no
  | _ => .no
theorem pe_makeL {X : Cx} {CX : CXT} {C f : Addr} {k i : Nat} {fd : FuncData} {ps : List Str} {sp : Sp} {dvs : List V} {ds : List Value} {E : L2.St → XK} {x : Str} {p pos : Pos} {e : Expr} {es : List Expr} {t : TA} (M : L2.Mk X.K C f) (F : FnOk X.prog X.w X.K X.mg X.base CX k f fd ps sp) (hr : Room (k + 1) X.A) (hN : X.N[i]? = some x) (hv : Vis X.env.scope x) (hb : Binds X.K fd ps ds) (hd : Vals dvs ds) (hx : ∀ σ, PassesAt CX X σ (E σ))
    (ha : PA X (e :: es) t) (hdb : (x == ("__debug__" : Str)) = false := by decide) (hcd : (x == ("__classdict__" : Str)) = false := by decide) (he : starEach (e :: es) X.env = (false, eval e X.env) :: starEach es X.env := by exact se_of rfl) (hpl : (backTo pos (starEach es X.env)).any (·.1) = false := by exact pl_of rfl) :
    PE X (.Call (.Name x p) (e :: es) [] pos) (fun σ H Q => σ[i]? = some (some (.ref C)) ∧ tMakeS C sp dvs E t σ H Q) := by
  refine ⟨fun pins s σ H Q I h => ?_⟩
  obtain ⟨hs, h⟩ := h
  refine wpAny_Call_Name_kw (thn ((pe_var (pos := p) hN hv hdb hcd).run pins s σ H (fun v H1 => v = .ref C ∧ H = H1) I ⟨.ref C, hs, rfl, rfl⟩) fun u s1 ⟨v, H1, I1, r1, q1⟩ => ?_)
  obtain ⟨rfl, rfl⟩ := q1
  cases r1
  refine PySem.W.callWith_K (h₀ := X.base) I.ok.mod.kin M.kp (thn (ha.run pos pins s1 σ _ _ I1 h) fun us s2 ⟨vs, H2, I2, r, q⟩ => ⟨I2.kIn, ?_⟩) he hpl
  exact run_makeS M F hr hb hd (hx σ) I2 r q
theorem pe_makeL0 {X : Cx} {CX : CXT} {C f : Addr} {k i : Nat} {fd : FuncData} {ps : List Str} {sp : Sp} {dvs : List V} {ds : List Value} {E : L2.St → XK} {x : Str} {p pos : Pos} (M : L2.Mk X.K C f) (F : FnOk X.prog X.w X.K X.mg X.base CX k f fd ps sp) (hr : Room (k + 1) X.A) (hN : X.N[i]? = some x) (hv : Vis X.env.scope x) (hb : Binds X.K fd ps ds) (hd : Vals dvs ds) (hx : ∀ σ, PassesAt CX X σ (E σ))
    (hdb : (x == ("__debug__" : Str)) = false := by decide) (hcd : (x == ("__classdict__" : Str)) = false := by decide) :
    PE X (.Call (.Name x p) [] [] pos) (fun σ H Q => σ[i]? = some (some (.ref C)) ∧ tMakeS C sp dvs E tNil σ H Q) := by
  refine ⟨fun pins s σ H Q I h => ?_⟩
  obtain ⟨hs, h⟩ := h
  refine wpAny_Call_Name_kw (thn ((pe_var (pos := p) hN hv hdb hcd).run pins s σ H (fun v H1 => v = .ref C ∧ H = H1) I ⟨.ref C, hs, rfl, rfl⟩) fun u s1 ⟨v, H1, I1, r1, q1⟩ => ?_)
  obtain ⟨rfl, rfl⟩ := q1
  cases r1
  exact PySem.W.callWith_K0 I1.kIn M.kp (run_makeS (us := []) M F hr hb hd (hx σ) I1 .nil h)
theorem makeL_at {i : Nat} {σ : L2.St} {F : Hp} {R : List Addr} {S : Store} {sl : Slots} {Q : VK} (hs : SlR C.K C.px F R σ sl) (post : Post C σ F R (RelD C.K) Q (eMakeL cn n dfl fn i ma sl S)) : σ[i]? = some (some (.ref (He.ga C.X.K cn))) ∧ Post C σ F R (RelD C.K) Q (eMake cn n dfl fn ma sl S) := by
  unfold eMakeL at post
  split at post
  · rename_i c hi
    by_cases hc : c = cn
    · rw [if_pos hc] at post
      subst hc
      obtain ⟨v, e1, e2⟩ := hs.2 _ _ hi
      cases (show Rp C.K F v (.glo c) from e2)
      exact ⟨e1, post⟩
    · rw [if_neg hc] at post; exact post.elim
  · exact post.elim
theorem ej_makeL (i : Nat) (hM : L2.Mk C.X.K (He.ga C.X.K cn) f) (hF : C.form k f fn (n + 1) dfl) (hr : Room (k + 1) C.X.A) (h2 : Aj C ma (e :: es)) (hN : C.X.N[i]? = some x := by rfl) (hv : Vis C.X.env.scope x := by first | exact Or.inl rfl | exact Or.inr (Or.inl rfl) | exact Or.inr (Or.inr rfl)) (hdb : (x == ("__debug__" : Str)) = false := by decide) (hcd : (x == ("__classdict__" : Str)) = false := by decide) (he : Se C e es := by exact se_of rfl) (hpl : Pl C es pos := by exact pl_of rfl) :
    Ej C (eMakeL cn n dfl fn i ma) (.Call (.Name x p) (e :: es) [] pos) := .mk fun sl S σ F R H hs hr' Q post => by
  obtain ⟨fd, ps, ds, dvs, g1, g2, g3, g4⟩ := hF
  obtain ⟨q1, q2⟩ := makeL_at hs post
  exact ED.of (pe_makeL hM g1 hr hN hv g2 g3 (fun σ => passAt C.tk σ) pa_d hdb hcd he hpl) ⟨q1, make_read rfl rfl g4 h2 hs hr' q2⟩
theorem ej_makeL0 (i : Nat) (hM : L2.Mk C.X.K (He.ga C.X.K cn) f) (hF : C.form k f fn 1 dfl) (hr : Room (k + 1) C.X.A) (hN : C.X.N[i]? = some x := by rfl) (hv : Vis C.X.env.scope x := by first | exact Or.inl rfl | exact Or.inr (Or.inl rfl) | exact Or.inr (Or.inr rfl)) (hdb : (x == ("__debug__" : Str)) = false := by decide) (hcd : (x == ("__classdict__" : Str)) = false := by decide) :
    Ej C (eMakeL cn 0 dfl fn i aN) (.Call (.Name x p) [] [] pos) := .mk fun sl S σ F R H hs hr' Q post => by
  obtain ⟨fd, ps, ds, dvs, g1, g2, g3, g4⟩ := hF
  obtain ⟨q1, q2⟩ := makeL_at hs post
  exact ED.of (pe_makeL0 hM g1 hr hN hv g2 g3 (fun σ => passAt C.tk σ) hdb hcd) ⟨q1, make_read (n := 0) rfl rfl g4 (fun sl S σ F R H hs hr Q post => (post.okv .nil hr : Q [] H)) hs hr' q2⟩
/-- frozen at once -/
def eFz (m : M) : M := fun sl S => froz S.length (m sl S)
theorem ej_fz (h : Ej C mo e) : Ej C (eFz mo) e := .mk fun sl S σ F R H hs hr' Q post => h sl S σ F R H hs hr' Q (froz_postC hr' post)
end
end Z

namespace Z
open PySem PySem.Spec PyProof.Rows L2
/-! ### the head: facts, tables, defs at any address -/
abbrev AlZ : Type := He.AlT × (Bool × List He.FnW)
def obZ (fa : List He.Fa) (ts : List He.Tab) (fn : List He5.DefA) (ex : PySem.W.Frag → Bool) (K : PySem.W.Frag) : AlZ := (He.obsT fa [] ts K, ((fn.all fun d => d.ok K) && ex K, fn.map fun d => He5.fnA K (d.at_ K)))
def obsZ (n : Nat) (fa : List He.Fa) (ts : List He.Tab) (fn : List He5.DefA) (ex : PySem.W.Frag → Bool) (g : Addr → Option Obj) : AlZ := obZ fa ts fn ex (He.frT g (He5.asA g n))
def valZ (ts : List He.Tab) (fn : List He5.DefA) (w : World) : AlZ := (He.valT [] ts w, (true, fn.map He5.DefA.val))
def SaysZ (fa : List He.Fa) (ts : List He.Tab) (fn : List He5.DefA) (ex : PySem.W.Frag → Bool) (w : World) (K : PySem.W.Frag) : Prop := obZ fa ts fn ex K = valZ ts fn w
def hookZ (n : Nat) (fa : List He.Fa) (ts : List He.Tab) (fn : List He5.DefA) (ex : PySem.W.Frag → Bool) : PySem.W.Hook where
  α := AlZ
  obs := fun s => obsZ n fa ts fn ex s.heap.get?
  val := fun w => valZ ts fn w
  says := fun w h => ∃ K : PySem.W.Frag, K.In h ∧ SaysZ fa ts fn ex w K
  of := fun _ _ e => ⟨_, He.frT_in, e⟩
  keeps := fun _ _ _ ⟨K, hK, c⟩ k => ⟨K, PySem.W.Frag.In.keeps hK k, c⟩
theorem obsZ_eq {n : Nat} {fa : List He.Fa} {ts : List He.Tab} {fn : List He5.DefA} {ex : PySem.W.Frag → Bool} {g : Addr → Option Obj} {s : Shared} (h : ∀ a, g a = s.heap.get? a) : obsZ n fa ts fn ex g = (hookZ n fa ts fn ex).obs s := by
  have e : g = s.heap.get? := funext h
  rw [e] <;> rfl
section
variable {fa : List He.Fa} {ts : List He.Tab} {fn : List He5.DefA} {ex : PySem.W.Frag → Bool} {w : World} {K : PySem.W.Frag}
theorem SaysZ.t (c : SaysZ fa ts fn ex w K) : He.SaysT fa [] ts w K := congrArg (fun z : AlZ => z.1) c
theorem SaysZ.fact (c : SaysZ fa ts fn ex w K) (i : Nat) {f : He.Fa} (h : fa[i]? = some f := by rfl) : f.ok K = true := c.t.d.fact i h
theorem SaysZ.tab (c : SaysZ fa ts fn ex w K) (i : Nat) {t : He.Tab} (h : ts[i]? = some t := by rfl) : ∃ es n, KDict K w (t.1 K) es n := c.t.tab i h
theorem SaysZ.ok (c : SaysZ fa ts fn ex w K) : (fn.all fun d => d.ok K) = true ∧ ex K = true := He.ba (show ((fn.all fun d => d.ok K) && ex K) = true from congrArg (fun z : AlZ => z.2.1) c)
theorem SaysZ.def_ (c : SaysZ fa ts fn ex w K) (i : Nat) {d : He5.DefA} (h : fn[i]? = some d := by rfl) : ∃ fd, FunD K d.name d.qual d.params d.body d.scope (d.dvs K) (d.kws K) (d.at_ K) fd := by
  have e : fn.map (fun d => He5.fnA K (d.at_ K)) = fn.map He5.DefA.val := congrArg (fun z : AlZ => z.2.2) c
  have e2 : (fn.map fun d => He5.fnA K (d.at_ K))[i]? = (fn.map He5.DefA.val)[i]? := by rw [e]
  rw [List.getElem?_map, List.getElem?_map, h] at e2
  exact He5.DefA.funD (Option.some.inj e2) (List.all_eq_true.mp c.ok.1 d (List.mem_of_getElem? h))
end
/-! ### words of classes, by a look at the written part -/
def eqCB (K : PySem.W.Frag) (C : Addr) : Bool := He.eqO (PySem.W.findIn K (.ref C) "__eq__") (some (some (.ref (He.ma K C "__eq__")))) && (He.eqO (PySem.W.findIn K (.ref C) "__ne__") (some (some (.builtin "object.__ne__"))) && (PySem.W.isFn K (.ref (He.ma K C "__eq__")) && decide (PySem.W.mroIn K C (.type "object") = some true)))
theorem eqC_of {K : PySem.W.Frag} {C : Addr} (h : eqCB K C = true) : EqC K C (He.ma K C "__eq__") := by
  obtain ⟨h1, h⟩ := He.ba h
  obtain ⟨h2, h⟩ := He.ba h
  obtain ⟨h3, h4⟩ := He.ba h
  exact ⟨He.eqO_ok h1, He.eqO_ok h2, h3, of_decide_eq_true h4⟩
theorem isTab_of {K : PySem.W.Frag} {tab : IsT} (h : isTabB K tab = true) : ∀ q ∈ tab, PySem.W.kitOne K (q.1.v K) (.ref (He.ga K q.2.1)) = some q.2.2 := fun q hq => of_decide_eq_true (List.all_eq_true.mp h q hq)
def cReadB (K : PySem.W.Frag) (C : Addr) : Bool := PySem.W.readsIn K C (.type "type") && He.eqO (PySem.W.specialIn K (.ref C) "__getattribute__") (some (some (.builtin "type.__getattribute__")))
theorem cRead_of {K : PySem.W.Frag} {C : Addr} (h : cReadB K C = true) : ClX.CRead K C (.type "type") := by
  obtain ⟨h1, h2⟩ := He.ba h
  exact ⟨h1, He.eqO_ok h2⟩
def cMetB (K : PySem.W.Frag) (C : Addr) (m : Str) : Bool := He5.wrapB K C "classmethod" "classmethod.__get__" m && PySem.W.fnIn K (He5.wf K C "classmethod" m)
theorem cMet_of {K : PySem.W.Frag} {C : Addr} {m : Str} (h : cMetB K C m = true) : ClX.CMet K C (.type "type") m (He.ma K C m) (He5.wf K C "classmethod" m) := by
  obtain ⟨h1, h2⟩ := He.ba h
  exact He5.cmet_of h1 h2
/-- an empty tuple of the text, at a -/
def nilB (K : PySem.W.Frag) (a : Addr) : Bool := match K.lookup a with
  | some ⟨.type "tuple", _, .seq its _, _⟩ => its.isEmpty
  | _ => false
theorem nil_of {K : Fr} {F : Hp} {a : Addr} (h : nilB K.K a = true) : Rp K F (.ref a) (.tup []) := by
  unfold nilB at h
  split at h
  · rename_i d its n sl e
    have hi : its = #[] := by simpa using h
    subst hi
    exact .tupW (.inr ⟨_, #[], _, e, rfl, rfl, by decide, .nil⟩) .nil rfl
  · cases h
end Z

namespace Z
open PySem PySem.Spec PyProof.Rows L2
/-! ### new lists that stay live -/
section
variable {C : Kx} {a b c e tg iter elt : Expr} {es rest : List Expr} {pos pos' p : Pos} {x : Str} {m me : M} {t : MT} {ms : MI} {K : Fr} {g : TG} {eff : Eff} {js vs : List Nat} {wi : TI} {scope : Scope} {own : List (Str × Nat)} {ma : MA}
theorem Rep.liven {G F H : Hp} {R : List Addr} {S : Store} {l : Addr} {o : HO} {c : Cell} (h : Rep K (upd G l o) F R S H) (n : G l = none) (hc : CellOk K F (R ++ [l]) l (one l o) c) : Rep K G F (R ++ [l]) (S ++ [c]) H := by
  obtain ⟨pc, h⟩ := h
  obtain ⟨q1, q2, q3⟩ := h.grd l o upd_same
  have h0 : Rep K G F R S (fun b => if b = l then none else H b) := by
    refine ⟨pc, fun a u e => ?_, h.len, h.ok, fun m a u e => ?_, h.sep, h.emp, fun a u e => ?_⟩
    · have ha : a ≠ l := fun z => by subst z; rw [q2] at e; cases e
      show (if a = l then none else H a) = some u
      rw [if_neg ha]; exact h.sub _ _ e
    · obtain ⟨z1, z2⟩ := h.out m a u e
      have ha : a ≠ l := fun z => by subst z; rw [q3 m] at e; cases e
      refine ⟨z1, ?_⟩
      show (if a = l then none else H a) = some u
      rw [if_neg ha]; exact z2
    · have ha : a ≠ l := fun z => by subst z; rw [n] at e; cases e
      obtain ⟨z1, z2, z3⟩ := h.grd a u (by rw [upd_ne ha]; exact e)
      refine ⟨?_, z2, z3⟩
      show (if a = l then none else H a) = some u
      rw [if_neg ha]; exact z1
  have e : upd (fun b => if b = l then none else H b) l o = H := by
    funext b
    by_cases hb : b = l
    · subst hb; rw [upd_same, q1]
    · rw [upd_ne hb]
      show (if b = l then none else H b) = H b
      rw [if_neg hb]
  have := h0.push1 (a := l) (o := o) (c := c) (if_pos rfl) hc
  rw [e] at this
  exact this
def eLcL (ms : MI) (eff : Eff) (t : MT) (me : M) (own : List Nat) : M := fun sl S => (ms sl S).bind fun its S1 => (lcL eff t me own sl its [] S1).bind fun ps S2 => .ok (.ref S2.length) (S2 ++ [.lst (ps.map .p)])
theorem lc_readL {tt : TT} {te : TE} {σ : L2.St} {F H : Hp} {R : List Addr} {sl : Slots} {S : Store} {Q : VK} (hs : SlR C.K C.px F R σ sl) (hr : Rep C.K C.G F R S H) (hsrc : SrcOk C wi ms) (ho : GOk C.K g eff js) (hj : ∀ j ∈ js, j ∈ vs) (ht : TurnOk C tt te t me)
    (post : Post C σ F R (RelD C.K) Q (eLcL ms eff t me vs sl S)) : tLc wi g tt te vs σ H Q := by
  refine hsrc sl S σ F R H hs hr _ (Post.bind post fun its S1 J F1 R1 H1 _ ok rep1 s1 r1 post1 => ?_)
  intro D hD
  have hs1 := hs.mono s1 r1
  have nG := rep1.gnone hD
  let Pv : Nat → Hp → Prop := fun i H => ∃ (F2 : Hp) (R2 : List Addr) (S2 : Store) (acc : List P) (ws : List V), Same F1 F2 ∧ R1 <+: R2 ∧ Rep C.K (upd C.G D (.lst ws)) F2 R2 S2 H ∧ RpAll C.K F2 ws acc ∧ Post C σ F2 R2 (RelD C.K) Q ((lcL eff t me vs sl (its.drop i) acc S2).bind fun ps S2 => .ok (.ref S2.length) (S2 ++ [.lst (ps.map .p)]))
  have start : Pv 0 (upd H1 D (.lst [])) := ⟨F1, R1, S1, [], [], Same.refl _, pre_refl, rep1.guard hD, .nil, post1⟩
  refine ⟨fun i m H => m = its.length - i ∧ i ≤ its.length ∧ Pv i H, ⟨its.length, rfl, Nat.zero_le _, start⟩, ?_⟩
  rintro i m H ⟨rfl, hi, F2, R2, S2, acc, ws, s2, r2, rep2, hr2, post2⟩
  by_cases hlt : i < its.length
  · have hit : its[i]? = some its[i] := List.getElem?_eq_getElem hlt
    have hd : its.drop i = its[i] :: its.drop (i + 1) := List.drop_eq_getElem_cons hlt
    rw [hd] at post2
    obtain ⟨g1, g2⟩ := ok.go i _ F2 H hit s2 rep2.sub
    refine .inr ⟨g1, Pv (i + 1), fun H' p' => ⟨its.length - (i + 1), by omega, rfl, hlt, p'⟩, fun v H' hy => ?_⟩
    obtain ⟨F3, gr3, rv⟩ := g2 v H' hy
    have rep3 := rep2.grow gr3
    simp only [lcL] at post2
    cases he : eff its[i] (wipeS sl vs) with
    | none => simp only [he] at post2; exact post2.elim
    | some sl3 =>
      simp only [he] at post2
      refine ho _ _ sl3 _ F3 R2 H' v _ he rv ((hs1.mono (s2.trans gr3.sF) r2).wipe vs) gr3.sub fun σ3 hs3 off => ?_
      refine ⟨by rw [off.wipe hj, wipe_wipe], ?_⟩
      have e1 : Same F1 F3 := s2.trans gr3.sF
      cases htt : t sl3 S2 with
      | exc x S4 => simp only [htt] at post2; exact post2.elim
      | no => simp only [htt] at post2; exact post2.elim
      | ok b S4 =>
        refine ht.t _ sl3 S2 σ3 F3 R2 H' hs3 rep3 b S4 htt _ fun F4 R4 H4 rep4 s4 r4 => ?_
        have post2 := Post.mono post2 (gr3.sF.trans s4) r4
        cases b with
        | false =>
          simp only [htt] at post2
          show Pv (i + 1) H4
          exact ⟨F4, R4, S4, acc, ws, e1.trans s4, pre_trans r2 r4, rep4, RpAll.mono (gr3.sF.trans s4) _ _ hr2, post2⟩
        | true =>
          simp only [htt] at post2
          show te σ3 H4 _
          cases hme : me sl3 S4 with
          | exc x S5 => simp only [hme] at post2; exact post2.elim
          | no => simp only [hme] at post2; exact post2.elim
          | ok d S5 =>
            cases d with
            | ref n => simp only [hme] at post2; exact post2.elim
            | p z =>
              simp only [hme] at post2
              refine ht.e _ sl3 S4 σ3 F4 R4 H4 (hs3.mono s4 r4) rep4 _ S5 hme _ fun y F5 R5 H5 ry rep5 s5 r5 => ?_
              have post2 := Post.mono post2 s5 r5
              have hr5 := RpAll.mono ((gr3.sF.trans s4).trans s5) _ _ hr2
              by_cases hl : acc.length < sizeLine
              · simp only [if_pos hl] at post2
                have hD5 : H5 D = some (.lst ws) := by
                  obtain ⟨pc, q⟩ := rep5
                  exact (q.grd D _ upd_same).1
                refine ⟨ws, hD5, by rw [hr5.length]; exact hl, F5, R5, S5, acc ++ [z], ws ++ [y], (e1.trans s4).trans s5, pre_trans (pre_trans r2 r4) r5, rep5.regrow, hr5.append (.cons ry .nil), post2⟩
              · simp only [if_neg hl] at post2; exact post2.elim
  · have e : i = its.length := by omega
    subst e
    rw [List.drop_length] at post2
    refine .inl ⟨ok.stop F2 H s2 rep2.sub, ?_⟩
    have hD2 : H D = some (.lst ws) := by
      obtain ⟨pc, q⟩ := rep2
      exact (q.grd D _ upd_same).1
    have rep4 := rep2.liven (c := .lst (acc.map .p)) nG (.lst (RelAll.of_p (R := R2 ++ [D]) hr2))
    exact post2 (.ref D) F2 (R2 ++ [D]) H (show RelD C.K F2 (R2 ++ [D]) (.ref D) (.ref S2.length) from ⟨D, last_get rep2.len, rfl⟩) rep4 (Same.refl _) pre_app
theorem ej_lcL0 (hc : C.X.calm = true) (hN : C.X.N.Nodup) (hi : PI C.X tg iter wi) (hsrc : SrcOk C wi ms) (ok : BlkOk C.X.N C.X.env.scope scope own) (hg : TgB C scope tg g) (ho : GOk C.K g eff js) (hj : ∀ j ∈ js, j ∈ own.map (·.2)) (he : EjB C scope me elt)
    (hf : ∀ x, foldedSetIterable iter C.X.env x = pure x := by intro _; rfl) : Ej C (eLcL ms eff tYes me (own.map (·.2))) (.ListComp elt [⟨tg, iter, [], 0⟩] scope pos) := .mk fun sl S σ F R H hs hr Q post =>
  ED.of (pe_lc hc hN hi ok hg (fun _ _ _ _ _ => pts_nil) (fun s H Cc cl fp => pe_b s H Cc cl fp) hf) (lc_readL hs hr hsrc ho hj ⟨fun G sl S σ F R H hs hr b S1 e Q k => by cases e; exact k F R H hr (Same.refl _) pre_refl, turn_e he⟩ post)
theorem ej_lcL1 (hc : C.X.calm = true) (hN : C.X.N.Nodup) (hi : PI C.X tg iter wi) (hsrc : SrcOk C wi ms) (ok : BlkOk C.X.N C.X.env.scope scope own) (hg : TgB C scope tg g) (ho : GOk C.K g eff js) (hj : ∀ j ∈ js, j ∈ own.map (·.2)) (htt : TjB C scope t c) (he : EjB C scope me elt)
    (hf : ∀ x, foldedSetIterable iter C.X.env x = pure x := by intro _; rfl) : Ej C (eLcL ms eff t me (own.map (·.2))) (.ListComp elt [⟨tg, iter, [c], 0⟩] scope pos) := .mk fun sl S σ F R H hs hr Q post =>
  ED.of (pe_lc hc hN hi ok hg (fun s H Cc cl fp => pts_one (pt_b s H Cc cl fp)) (fun s H Cc cl fp => pe_b s H Cc cl fp) hf) (lc_readL hs hr hsrc ho hj ⟨turn_t htt, turn_e he⟩ post)
/-! list(..), str(..) -/
def eListL (ma : MA) : M := fun sl S => (ma sl S).bind fun ds S1 => match views S1 ds with
  | some qs => match listP qs with
    | some (.lst ps) => .ok (.ref S1.length) (S1 ++ [.lst (ps.map .p)])
    | _ => .no
  | none => .no
theorem list_vw {F H : Hp} {qs : List P} {ps : List P} {vs : List V} (s : Same F H) (e : listP qs = some (.lst ps)) (hx : VwAll K F H vs qs) : ∃ p ys, vs = [.ref p] ∧ (SqL K.K H p ys ∨ SqT K.K H p ys) ∧ RpAll K F ys ps := by
  unfold listP at e
  split at e
  · obtain ⟨v, rfl, h⟩ := vw1 hx
    cases e
    obtain ⟨a, ws, rfl, h1, h2⟩ := h.lstE s
    exact ⟨a, ws, rfl, .inl (.inl (.inl h1)), h2⟩
  · obtain ⟨v, rfl, h⟩ := vw1 hx
    cases e
    obtain ⟨a, ws, rfl, h1, h2⟩ := h.tupE
    exact ⟨a, ws, rfl, .inr (same_sqT s h1), h2⟩
  · obtain ⟨v, rfl, h⟩ := vw1 hx
    cases e
    obtain ⟨a, rfl, h1⟩ := h.scrE s
    refine ⟨a, _, rfl, .inl h1, ?_⟩
    rename_i ns
    clear h1 h hx
    induction ns with
    | nil => exact .nil
    | cons n ns ih => exact .cons (.int n) ih
  · cases e
theorem ej_listL (hm : C.X.mg "list" = none) (h : Aj C ma (e :: es)) (hg : Gl C.X "list" := by rfl) (he : Se C e es := by exact se_of rfl) (hpl : Pl C es pos := by exact pl_of rfl) : Ej C (eListL ma) (.Call (.Name "list" p) (e :: es) [] pos) := .mk fun sl S σ F R H hs hr Q post =>
  ED.of (pe_callTy call_list_of hg hm (by decide +kernel) pa_d (by decide) (by decide) he hpl) (h sl S σ F R H hs hr _ (Post.bind post fun ds S1 vs F1 R1 H1 _ rx rep1 s1 r1 post1 => by
    cases hv : views S1 ds with
    | none => simp only [hv] at post1; exact post1.elim
    | some qs =>
      simp only [hv] at post1
      split at post1
      · rename_i ps hl
        obtain ⟨p, ys, rfl, h1, h2⟩ := list_vw rep1.sub hl (views_vw rx rep1 hv)
        refine ⟨p, ys, rfl, h1, fun l hn => ?_⟩
        exact post1 _ F1 (R1 ++ [l]) _ (show RelD C.K _ _ _ (.ref S1.length) from ⟨l, last_get rep1.len, rfl⟩) (rep1.push1 hn (.lst (RelAll.of_p (R := R1 ++ [l]) h2))) (Same.refl _) pre_app
      · exact post1.elim))
def strQ : List P → Option P
  | [.str z] => some (.str z)
  | ps => strP ps
theorem cv_strQ : CallV K (fun xs H Q => (fun xs H Q => ∃ i, xs = [.int i] ∧ i.natAbs.log2 < 1920 ∧ Q (.str (toString i)) H) xs H Q ∨ (fun xs H Q => ∃ a, xs = [.str a] ∧ Q (.str a) H) xs H Q) strQ := fun ps z vs F H Q e hx s k => by
  unfold strQ at e
  split at e
  · obtain ⟨v, rfl, h⟩ := vw1 hx
    cases e
    cases h.str
    exact .inr ⟨_, rfl, k _ F H (.str _) (Grow.refl s)⟩
  · exact .inl (cv_str _ z vs F H Q e hx s k)
theorem ej_strQ (hm : C.X.mg "str" = none) (h : Aj C ma (e :: es)) (hg : Gl C.X "str" := by rfl) (he : Se C e es := by exact se_of rfl) (hpl : Pl C es pos := by exact pl_of rfl) : Ej C (eF strQ ma) (.Call (.Name "str" p) (e :: es) [] pos) := ej_callTy (CallR.or call_str_int SkE.call_str_str) cv_strQ hm (by decide +kernel) h hg (he := he) (hpl := hpl)
end
end Z

namespace Z
open PySem PySem.Spec PyProof.Rows L2
/-! ### name = [..] on one line -/
section
variable {C : Kx} {c tg iter elt : Expr} {pos pos' spos : Pos} {x : Str} {me : M} {t : MT} {ms : MI} {g : TG} {eff : Eff} {js : List Nat} {wi : TI} {scope : Scope} {own : List (Str × Nat)}
theorem sj_setLc0 (i : Nat) (hc : C.X.calm = true) (hN : C.X.N.Nodup) (hi : PI C.X tg iter wi) (hsrc : SrcOk C wi ms) (ok : BlkOk C.X.N C.X.env.scope scope own) (hg : TgB C scope tg g) (ho : GOk C.K g eff js) (hj : ∀ j ∈ js, j ∈ own.map (·.2)) (he : EjB C scope me elt)
    (hf : ∀ x, foldedSetIterable iter C.X.env x = pure x := by intro _; rfl) (hy : C.X.N[i]? = some x := by rfl) (hyl : C.X.env.scope.names.lookup x = some .local := by rfl)
    (hw : swapsWith (.ListComp elt [⟨tg, iter, [], 0⟩] scope pos) (some (.Name x pos')) spos.line C.X.env = pure true := by exact sw_true rfl rfl rfl rfl) :
    Sj1 C (sSet i (eLc ms eff tYes me (own.map (·.2)))) (.Assign [.Name x pos'] (.ListComp elt [⟨tg, iter, [], 0⟩] scope pos) spos) := .mk fun sl S σ F R H hs hr D post =>
  SD1.of (ps_setLc hc hN hy hyl hw hi ok hg (fun _ _ _ _ _ => pts_nil) (fun s H Cc cl fp => pe_b s H Cc cl fp) hf) (lc_read hs hr hsrc ho hj ⟨fun G sl S σ F R H hs hr b S1 e Q k => by cases e; exact k F R H hr (Same.refl _) pre_refl, turn_e he⟩ (PostS.bind post hs fun d S1 v F1 R1 H1 _ rv rep1 s1 r1 hs1 post1 => post1 _ F1 R1 H1 (hs1.set rv) rep1 (Same.refl _) pre_refl))
theorem sj_setLc1 (i : Nat) (hc : C.X.calm = true) (hN : C.X.N.Nodup) (hi : PI C.X tg iter wi) (hsrc : SrcOk C wi ms) (ok : BlkOk C.X.N C.X.env.scope scope own) (hg : TgB C scope tg g) (ho : GOk C.K g eff js) (hj : ∀ j ∈ js, j ∈ own.map (·.2)) (htt : TjB C scope t c) (he : EjB C scope me elt)
    (hf : ∀ x, foldedSetIterable iter C.X.env x = pure x := by intro _; rfl) (hy : C.X.N[i]? = some x := by rfl) (hyl : C.X.env.scope.names.lookup x = some .local := by rfl)
    (hw : swapsWith (.ListComp elt [⟨tg, iter, [c], 0⟩] scope pos) (some (.Name x pos')) spos.line C.X.env = pure true := by exact sw_true rfl rfl rfl rfl) :
    Sj1 C (sSet i (eLc ms eff t me (own.map (·.2)))) (.Assign [.Name x pos'] (.ListComp elt [⟨tg, iter, [c], 0⟩] scope pos) spos) := .mk fun sl S σ F R H hs hr D post =>
  SD1.of (ps_setLc hc hN hy hyl hw hi ok hg (fun s H Cc cl fp => pts_one (pt_b s H Cc cl fp)) (fun s H Cc cl fp => pe_b s H Cc cl fp) hf) (lc_read hs hr hsrc ho hj ⟨turn_t htt, turn_e he⟩ (PostS.bind post hs fun d S1 v F1 R1 H1 _ rv rep1 s1 r1 hs1 post1 => post1 _ F1 R1 H1 (hs1.set rv) rep1 (Same.refl _) pre_refl))
theorem sj_setLcL0 (i : Nat) (hc : C.X.calm = true) (hN : C.X.N.Nodup) (hi : PI C.X tg iter wi) (hsrc : SrcOk C wi ms) (ok : BlkOk C.X.N C.X.env.scope scope own) (hg : TgB C scope tg g) (ho : GOk C.K g eff js) (hj : ∀ j ∈ js, j ∈ own.map (·.2)) (he : EjB C scope me elt)
    (hf : ∀ x, foldedSetIterable iter C.X.env x = pure x := by intro _; rfl) (hy : C.X.N[i]? = some x := by rfl) (hyl : C.X.env.scope.names.lookup x = some .local := by rfl)
    (hw : swapsWith (.ListComp elt [⟨tg, iter, [], 0⟩] scope pos) (some (.Name x pos')) spos.line C.X.env = pure true := by exact sw_true rfl rfl rfl rfl) :
    Sj1 C (sSet i (eLcL ms eff tYes me (own.map (·.2)))) (.Assign [.Name x pos'] (.ListComp elt [⟨tg, iter, [], 0⟩] scope pos) spos) := .mk fun sl S σ F R H hs hr D post =>
  SD1.of (ps_setLc hc hN hy hyl hw hi ok hg (fun _ _ _ _ _ => pts_nil) (fun s H Cc cl fp => pe_b s H Cc cl fp) hf) (lc_readL hs hr hsrc ho hj ⟨fun G sl S σ F R H hs hr b S1 e Q k => by cases e; exact k F R H hr (Same.refl _) pre_refl, turn_e he⟩ (PostS.bind post hs fun d S1 v F1 R1 H1 _ rv rep1 s1 r1 hs1 post1 => post1 _ F1 R1 H1 (hs1.set rv) rep1 (Same.refl _) pre_refl))
theorem sj_setLcL1 (i : Nat) (hc : C.X.calm = true) (hN : C.X.N.Nodup) (hi : PI C.X tg iter wi) (hsrc : SrcOk C wi ms) (ok : BlkOk C.X.N C.X.env.scope scope own) (hg : TgB C scope tg g) (ho : GOk C.K g eff js) (hj : ∀ j ∈ js, j ∈ own.map (·.2)) (htt : TjB C scope t c) (he : EjB C scope me elt)
    (hf : ∀ x, foldedSetIterable iter C.X.env x = pure x := by intro _; rfl) (hy : C.X.N[i]? = some x := by rfl) (hyl : C.X.env.scope.names.lookup x = some .local := by rfl)
    (hw : swapsWith (.ListComp elt [⟨tg, iter, [c], 0⟩] scope pos) (some (.Name x pos')) spos.line C.X.env = pure true := by exact sw_true rfl rfl rfl rfl) :
    Sj1 C (sSet i (eLcL ms eff t me (own.map (·.2)))) (.Assign [.Name x pos'] (.ListComp elt [⟨tg, iter, [c], 0⟩] scope pos) spos) := .mk fun sl S σ F R H hs hr D post =>
  SD1.of (ps_setLc hc hN hy hyl hw hi ok hg (fun s H Cc cl fp => pts_one (pt_b s H Cc cl fp)) (fun s H Cc cl fp => pe_b s H Cc cl fp) hf) (lc_readL hs hr hsrc ho hj ⟨turn_t htt, turn_e he⟩ (PostS.bind post hs fun d S1 v F1 R1 H1 _ rv rep1 s1 r1 hs1 post1 => post1 _ F1 R1 H1 (hs1.set rv) rep1 (Same.refl _) pre_refl))
end
end Z

namespace Z
open PySem PySem.Spec PyProof.Rows L2
/-! ### d.get, d.setdefault: keys of any kind -/
def IsZ (K : Fr) (H : Hp) (a : Addr) : Prop := (∃ kvs, H a = some (.dK kvs)) ∨ ∃ kvs ks, H a = some (dN K.pg K.w a kvs) ∧ KsOk K H kvs ks
section
variable {X : Cx} {pins : List (Addr × Obj)} {σ : L2.St} {H : Hp} {s : Shared} {a : Addr} {y z : V} {u r : Value} {A : Around} {E : Value → Shared → Prop}
theorem isZ_at (I : Inv X pins σ H s) (d : IsZ (frX X) H a) : s.TypeIs (.ref a) "dict" ∧ ∀ b, Value.ref a = .ref b → ∃ ob, s.heap.get? b = some ob ∧ ob.dict = none := by
  rcases d with ⟨kvs, e⟩ | ⟨kvs, ks, e, hk⟩
  · obtain ⟨h1, h2, _⟩ := isD_at I (.inl ⟨kvs, .inl e⟩)
    exact ⟨h1, h2⟩
  · obtain ⟨_, _, xs, _, dd⟩ := dn_ok I.hok I.kIn e hk
    refine ⟨dd.typeIs, fun b q => ?_⟩
    cases q
    obtain ⟨ob, _, _, h1, h2, _⟩ := dd
    exact ⟨ob, h1, h2.2.1⟩
theorem z_get2 {o : Option V} {Q : Value → Shared → Prop} (hu : A.units + 16 < cLine) (I : Inv X pins σ H s) (g : GetZ (frX X) H a y o) (ry : RelV y u) (rd : RelV z r) (h : ∀ w' s', Inv X pins σ H s' → RelV (o.getD z) w' → Q w' s') :
    wpAny (model X.prog X.w) A (call (.builtin "dict.get") [.ref a, u, r]) Q E s := by
  rcases g with g | ⟨kvs, ks, b, p, k, e, hk, rfl, hp, hn, hd, l⟩
  · exact d_get2 (by omega) I g ry rd h
  · cases (show u = Value.ref b from ry)
    obtain ⟨z', hd', xs, rel, dd⟩ := dn_ok I.hok I.kIn e hk
    refine call_meetsIn PySem.F.slot_dict_get dd.typeIs PySem.F.entry_dict_get (PySem.F.args_dict_get_3 _ _ _) (meetsH_dict_get_default (nestedKind X.prog X.w) a b hd' r) ⟨(show A.in1.units + 8 < cLine by show A.units + 1 + 8 < cLine; omega), k, xs, key_at I.hok I.kIn hp hn hd, dd, h _ _ (I.tok _) ?_⟩
    rw [l]
    exact (rel.val k).getD rd
theorem z_get1 {o : Option V} {Q : Value → Shared → Prop} (hu : A.units + 16 < cLine) (I : Inv X pins σ H s) (g : GetZ (frX X) H a y o) (ry : RelV y u) (h : ∀ w' s', Inv X pins σ H s' → RelV (o.getD .non) w' → Q w' s') :
    wpAny (model X.prog X.w) A (call (.builtin "dict.get") [.ref a, u]) Q E s := by
  rcases g with g | ⟨kvs, ks, b, p, k, e, hk, rfl, hp, hn, hd, l⟩
  · exact d_get1 (by omega) I g ry h
  · cases (show u = Value.ref b from ry)
    obtain ⟨z', hd', xs, rel, dd⟩ := dn_ok I.hok I.kIn e hk
    refine call_meetsIn PySem.F.slot_dict_get dd.typeIs PySem.F.entry_dict_get (PySem.F.args_dict_get_2 _ _) (meetsH_dict_get (nestedKind X.prog X.w) a b hd') ⟨(show A.in1.units + 8 < cLine by show A.units + 1 + 8 < cLine; omega), k, xs, key_at I.hok I.kIn hp hn hd, dd, h _ _ (I.tok _) ?_⟩
    rw [l]
    exact (rel.val k).getD rfl
/-- setdefault: a key that may be there -/
def SetdZ (K : Fr) (H : Hp) (a : Addr) (y z : V) (Q : VK) : Prop := (∃ kvs k, H a = some (.dK kvs) ∧ y = kV k ∧ kvs.length < sizeLine ∧ (∀ v, valV kvs k = some v → Q v H) ∧ (valV kvs k = none → Q z (upd H a (.dK (putK kvs k z))))) ∨
  ∃ kvs ks b p k, H a = some (dN K.pg K.w a kvs) ∧ KsOk K H kvs ks ∧ y = .ref b ∧ Rp K H (.ref b) p ∧ nkP p = some k ∧ k.depth ≤ 8 ∧ kvs.length < sizeLine ∧ (∀ v, lookN kvs k = some v → Q v H) ∧ (lookN kvs k = none → Q z (upd H a (dN K.pg K.w a (putN kvs k b z))))
theorem z_setd {Q : VK} (hu : X.A.units + 16 < cLine) (I : Inv X pins σ H s) (g : SetdZ (frX X) H a y z Q) (ry : RelV y u) (rd : RelV z r) : wpAny (model X.prog X.w) X.A (call (.builtin "dict.setdefault") [.ref a, u, r]) (EP X pins σ Q) X.xe s := by
  rcases g with ⟨kvs, k, e, rfl, hl, h1, h2⟩ | ⟨kvs, ks, b, p, k, e, hk, rfl, hp, hn, hd, hl, h1, h2⟩
  · exact d_setd I e ry rd hl (fun v hv w' s' I' rw' => ⟨v, _, I', rw', h1 v hv⟩) fun hn w' s' I' rw' => ⟨z, _, I', rw', h2 hn⟩
  · cases (show u = Value.ref b from ry)
    obtain ⟨z', hd', xs, rel, dd⟩ := dn_ok I.hok I.kIn e hk
    have hz : xs.length ≤ sizeLine := by rw [← Paired.length rel]; exact z'
    have hl' : (putN kvs k b z).length ≤ sizeLine := by have := length_putN kvs k b z; omega
    refine call_setdefault_heap (hsz := hz) (show X.A.in1.units + 8 < cLine by show X.A.units + 1 + 8 < cLine; omega) (key_at I.hok I.kIn hp hn hd) hd' dd (fun q hq => ?_) fun hq h' dd' hs => ?_
    · have := rel.val k
      rw [hq] at this
      cases hv : lookN kvs k with
      | none => rw [hv] at this; cases this
      | some v =>
        rw [hv] at this
        exact ⟨v, H, I.tok _, this, h1 v hv⟩
    · have := rel.val k
      rw [hq] at this
      cases hv : lookN kvs k with
      | some v => rw [hv] at this; cases this
      | none =>
        refine ⟨z, _, ?_, rd, h2 hv⟩
        obtain ⟨q, es, ep, hq, q2, q3, q4, _, q5⟩ := dd'
        refine d_write I (by rw [e]; exact True.intro) hs ⟨q, hq⟩ ⟨⟨hl', hd', _, rel.put k b rd, q, es, ep, hq, q2, q3, q4, q5⟩, ⟨q, hq⟩, fun h1 h2 hx hy => ?_⟩
        obtain ⟨y1, y2, ys, y3, o, es', ep', y4, y5⟩ := hx
        exact ⟨y1, y2, ys, y3, o, es', ep', hy o y4, y5⟩
end
section
variable {X : Cx} {o e f : Expr} {td ty tx : TE} {apos cpos : Pos}
def tGetZ1 (K : Fr) (td ty : TE) : TE := fun σ H Q => td σ H fun x H1 => ∃ a, x = .ref a ∧ IsZ K H1 a ∧ ty σ H1 fun y H2 => ∃ o, GetZ K H2 a y o ∧ Q (o.getD .non) H2
def tGetZ2 (K : Fr) (td ty tx : TE) : TE := fun σ H Q => td σ H fun x H1 => ∃ a, x = .ref a ∧ IsZ K H1 a ∧ ty σ H1 fun y H2 => tx σ H2 fun z H3 => ∃ o, GetZ K H3 a y o ∧ Q (o.getD z) H3
def tSetdZ (K : Fr) (td ty tx : TE) : TE := fun σ H Q => td σ H fun x H1 => ∃ a, x = .ref a ∧ IsZ K H1 a ∧ ty σ H1 fun y H2 => tx σ H2 fun z H3 => SetdZ K H3 a y z Q
theorem pe_getZ1 (hu : X.A.units + 16 < cLine) (ho : PE X o td) (he : PE X e ty) (m : M1 X o "get" apos e cpos) : PE X (.Call (.Attribute o "get" apos) [e] [] cpos) (tGetZ1 (frX X) td ty) := by
  refine ⟨fun pins s σ H Q I h => ?_⟩
  refine wpAny_Call_method m.base m.few m.line PySem.F.plainAttrs_dict PySem.F.slot_dict_get PySem.F.type_dict_get (thn (ho.run pins s σ H _ I h) fun u s1 ⟨x, H1, I1, rx, a, ex, d, q1⟩ => ?_)
  subst ex
  obtain rfl : u = Value.ref a := rx
  obtain ⟨t1, t2⟩ := isZ_at I1 d
  refine ⟨t1, t2, ?_⟩
  rw [m.trees]
  refine Calls.callWith_builtin rfl (Calls.evalArgs_plain (Calls.spliced_cons (thn (he.run pins s1 σ H1 _ I1 q1) fun iv s2 ⟨y, H2, I2, ry, ov, g, q2⟩ => Calls.spliced_nil ?_)))
  exact z_get1 hu I2 g ry fun w' s3 I3 rw' => ⟨_, H2, I3, rw', q2⟩
theorem pe_getZ2 (hu : X.A.units + 16 < cLine) (ho : PE X o td) (he : PE X e ty) (hf : PE X f tx) (m : M2 X o "get" apos e f cpos) : PE X (.Call (.Attribute o "get" apos) [e, f] [] cpos) (tGetZ2 (frX X) td ty tx) := by
  refine ⟨fun pins s σ H Q I h => ?_⟩
  refine wpAny_Call_method m.base m.few m.line PySem.F.plainAttrs_dict PySem.F.slot_dict_get PySem.F.type_dict_get (thn (ho.run pins s σ H _ I h) fun u s1 ⟨x, H1, I1, rx, a, ex, d, q1⟩ => ?_)
  subst ex
  obtain rfl : u = Value.ref a := rx
  obtain ⟨t1, t2⟩ := isZ_at I1 d
  refine ⟨t1, t2, ?_⟩
  rw [m.trees]
  refine Calls.callWith_builtin rfl (Calls.evalArgs_plain (Calls.spliced_cons (thn (he.run pins s1 σ H1 _ I1 q1) fun iv s2 ⟨y, H2, I2, ry, q2⟩ =>
    Calls.spliced_cons (thn (hf.run pins s2 σ H2 _ I2 q2) fun fv s3 ⟨z, H3, I3, rz, ov, g, q3⟩ => Calls.spliced_nil ?_))))
  exact z_get2 hu I3 g ry rz fun w' s4 I4 rw' => ⟨_, H3, I4, rw', q3⟩
theorem pe_setdZ (hu : X.A.units + 16 < cLine) (ho : PE X o td) (he : PE X e ty) (hf : PE X f tx) (m : M2 X o "setdefault" apos e f cpos) : PE X (.Call (.Attribute o "setdefault" apos) [e, f] [] cpos) (tSetdZ (frX X) td ty tx) := by
  refine ⟨fun pins s σ H Q I h => ?_⟩
  refine wpAny_Call_method m.base m.few m.line PySem.F.plainAttrs_dict PySem.F.slot_dict_setdefault PySem.F.type_dict_setdefault (thn (ho.run pins s σ H _ I h) fun u s1 ⟨x, H1, I1, rx, a, ex, d, q1⟩ => ?_)
  subst ex
  obtain rfl : u = Value.ref a := rx
  obtain ⟨t1, t2⟩ := isZ_at I1 d
  refine ⟨t1, t2, ?_⟩
  rw [m.trees]
  refine Calls.callWith_builtin rfl (Calls.evalArgs_plain (Calls.spliced_cons (thn (he.run pins s1 σ H1 _ I1 q1) fun iv s2 ⟨y, H2, I2, ry, q2⟩ =>
    Calls.spliced_cons (thn (hf.run pins s2 σ H2 _ I2 q2) fun fv s3 ⟨z, H3, I3, rz, q3⟩ => Calls.spliced_nil ?_))))
  exact z_setd hu I3 q3 ry rz
end
theorem DicAt.isZ {K : Fr} {F H : Hp} {R : List Addr} {a : Addr} {t : Bool} {ks : List P} {ds : List D} (h : DicAt K F R H a t ks ds) (s : Same F H) : IsZ K H a := by
  cases h with
  | k h1 _ => exact .inl ⟨_, h1⟩
  | n h1 h2 _ => exact .inr ⟨_, _, h1, h2.mono s⟩
def eGet1 (mo m1 : M) : M := fun sl S => (mo sl S).bind fun d S1 => match dicOf S1 d with
  | some _ => (m1 sl S1).bind fun k S2 => match dicOf S2 d, view S2 k with
    | some (t, ks, ds), some p => if okKey t p = true then .ok ((lookL ks ds p).getD (.p .non)) S2 else .no
    | _, _ => .no
  | none => .no
def eGet2 (mo m1 m2 : M) : M := fun sl S => (mo sl S).bind fun d S1 => match dicOf S1 d with
  | some _ => (m1 sl S1).bind fun k S2 => (m2 sl S2).bind fun z S3 => match dicOf S3 d, view S3 k with
    | some (t, ks, ds), some p => if okKey t p = true then .ok ((lookL ks ds p).getD z) S3 else .no
    | _, _ => .no
  | none => .no
def eSetd (mo m1 m2 : M) : M := fun sl S => (mo sl S).bind fun d S1 => match dicOf S1 d with
  | some _ => (m1 sl S1).bind fun k S2 => (m2 sl S2).bind fun z S3 => match d with
    | .ref n => match S3[n]?, view S3 k with
      | some (.dic t ks ds), some p => if okKey t p = true ∧ ks.length < sizeLine then match lookL ks ds p with
          | some v => .ok v S3
          | none => .ok z (S3.set n (.dic t (putKs ks p) (putV ks ds p z)))
        else .no
      | _, _ => .no
    | .p _ => .no
  | none => .no
section
variable {C : Kx} {a b c e o f : Expr} {apos cpos : Pos} {m1 m2 mo : M}
theorem m1_of {X : Cx} {m : Str} (hbase : attributeBase o m X.env (eval o X.env) = eval o X.env) (hfew : ((backTo cpos (starEach [e] X.env)).all (fun x => !x.1) && (backToKw cpos (keywordEach [] X.env)).all (fun x => x.1.isSome) && decide (([e] : List Expr).length + ([] : List Keyword).length + (if ([] : List Keyword).isEmpty then 0 else 1) < 30)) = true) (hline : (apos.endLine == cpos.line) = true) (ht : backTo cpos (starEach [e] X.env) = [(false, eval e X.env)]) : M1 X o m apos e cpos := ⟨hbase, hfew, hline, ht⟩
theorem ej_get1 (hu : C.X.A.units + 16 < cLine) (h0 : Ej C mo o) (h1 : Ej C m1 e) (m : M1 C.X o "get" apos e cpos := by exact ⟨rfl, rfl, rfl, rfl⟩) : Ej C (eGet1 mo m1) (.Call (.Attribute o "get" apos) [e] [] cpos) := .mk fun sl S σ F R H hs hr Q post =>
  ED.of (pe_getZ1 hu pe_d pe_d m) (h0 sl S σ F R H hs hr _ (Post.bind post fun d S1 x F1 R1 H1 _ rx rep1 s1 r1 post1 => by
    cases hd : dicOf S1 d with
    | none => simp only [hd] at post1; exact post1.elim
    | some q =>
      obtain ⟨t, ks, ds⟩ := q
      simp only [hd] at post1
      obtain ⟨a, rfl, at_⟩ := dicOf_at rx rep1 hd
      refine ⟨a, rfl, at_.isZ rep1.sub, h1 sl S1 σ F1 R1 H1 (hs.mono s1 r1) rep1 _ (Post.bind post1 fun k S2 y F2 R2 H2 _ ry rep2 s2 r2 post2 => ?_)⟩
      cases hd2 : dicOf S2 d with
      | none => simp only [hd2] at post2; exact post2.elim
      | some q2 =>
        obtain ⟨t2, ks2, ds2⟩ := q2
        cases hv : view S2 k with
        | none => simp only [hd2, hv] at post2; exact post2.elim
        | some p =>
          simp only [hd2, hv] at post2
          by_cases hk : okKey t2 p = true
          · rw [if_pos hk] at post2
            obtain ⟨a', e', at2⟩ := dicOf_at (rx.mono s2 r2) rep2 hd2
            cases e'
            have := dic_get at2 rep2.sub (view_vw ry rep2 hv) hk
            cases hl : lookL ks2 ds2 p with
            | none =>
              rw [hl] at this post2
              exact ⟨none, this, post2.okv (show RelD C.K F2 R2 .non (.p .non) from .non) rep2⟩
            | some r =>
              rw [hl] at this post2
              obtain ⟨v, g, rv⟩ := this
              exact ⟨some v, g, post2.okv rv rep2⟩
          · rw [if_neg hk] at post2; exact post2.elim))
theorem ej_get2 (hu : C.X.A.units + 16 < cLine) (h0 : Ej C mo o) (h1 : Ej C m1 e) (h2 : Ej C m2 f) (m : M2 C.X o "get" apos e f cpos := by exact ⟨rfl, rfl, rfl, rfl⟩) : Ej C (eGet2 mo m1 m2) (.Call (.Attribute o "get" apos) [e, f] [] cpos) := .mk fun sl S σ F R H hs hr Q post =>
  ED.of (pe_getZ2 hu pe_d pe_d pe_d m) (h0 sl S σ F R H hs hr _ (Post.bind post fun d S1 x F1 R1 H1 _ rx rep1 s1 r1 post1 => by
    cases hd : dicOf S1 d with
    | none => simp only [hd] at post1; exact post1.elim
    | some q =>
      obtain ⟨t, ks, ds⟩ := q
      simp only [hd] at post1
      obtain ⟨a, rfl, at_⟩ := dicOf_at rx rep1 hd
      refine ⟨a, rfl, at_.isZ rep1.sub, h1 sl S1 σ F1 R1 H1 (hs.mono s1 r1) rep1 _ (Post.bind post1 fun k S2 y F2 R2 H2 _ ry rep2 s2 r2 post2 => ?_)⟩
      refine h2 sl S2 σ F2 R2 H2 ((hs.mono s1 r1).mono s2 r2) rep2 _ (Post.bind post2 fun z S3 zv F3 R3 H3 _ rz rep3 s3 r3 post3 => ?_)
      cases hd2 : dicOf S3 d with
      | none => simp only [hd2] at post3; exact post3.elim
      | some q2 =>
        obtain ⟨t2, ks2, ds2⟩ := q2
        cases hv : view S3 k with
        | none => simp only [hd2, hv] at post3; exact post3.elim
        | some p =>
          simp only [hd2, hv] at post3
          by_cases hk : okKey t2 p = true
          · rw [if_pos hk] at post3
            obtain ⟨a', e', at2⟩ := dicOf_at ((rx.mono s2 r2).mono s3 r3) rep3 hd2
            cases e'
            have := dic_get at2 rep3.sub (view_vw (ry.mono s3 r3) rep3 hv) hk
            cases hl : lookL ks2 ds2 p with
            | none =>
              rw [hl] at this post3
              exact ⟨none, this, post3.okv rz rep3⟩
            | some r =>
              rw [hl] at this post3
              obtain ⟨v, g, rv⟩ := this
              exact ⟨some v, g, post3.okv rv rep3⟩
          · rw [if_neg hk] at post3; exact post3.elim))
theorem ej_setd (hu : C.X.A.units + 16 < cLine) (h0 : Ej C mo o) (h1 : Ej C m1 e) (h2 : Ej C m2 f) (m : M2 C.X o "setdefault" apos e f cpos := by exact ⟨rfl, rfl, rfl, rfl⟩) : Ej C (eSetd mo m1 m2) (.Call (.Attribute o "setdefault" apos) [e, f] [] cpos) := .mk fun sl S σ F R H hs hr Q post =>
  ED.of (pe_setdZ hu pe_d pe_d pe_d m) (h0 sl S σ F R H hs hr _ (Post.bind post fun d S1 x F1 R1 H1 _ rx rep1 s1 r1 post1 => by
    cases hd : dicOf S1 d with
    | none => simp only [hd] at post1; exact post1.elim
    | some q =>
      obtain ⟨t, ks, ds⟩ := q
      simp only [hd] at post1
      obtain ⟨a, rfl, at_⟩ := dicOf_at rx rep1 hd
      refine ⟨a, rfl, at_.isZ rep1.sub, h1 sl S1 σ F1 R1 H1 (hs.mono s1 r1) rep1 _ (Post.bind post1 fun k S2 y F2 R2 H2 _ ry rep2 s2 r2 post2 => ?_)⟩
      refine h2 sl S2 σ F2 R2 H2 ((hs.mono s1 r1).mono s2 r2) rep2 _ (Post.bind post2 fun z S3 zv F3 R3 H3 _ rz rep3 s3 r3 post3 => ?_)
      cases d with
      | p _ => exact post3.elim
      | ref n =>
        simp only [] at post3
        cases hn : S3[n]? with
        | none => simp only [hn] at post3; exact post3.elim
        | some cl =>
          cases cl with
          | dic t2 ks2 ds2 =>
            cases hv : view S3 k with
            | none => simp only [hn, hv] at post3; exact post3.elim
            | some p =>
              simp only [hn, hv] at post3
              by_cases hk : okKey t2 p = true ∧ ks2.length < sizeLine
              · rw [if_pos hk] at post3
                obtain ⟨hk, hl⟩ := hk
                have hd2 : dicOf S3 (.ref n) = some (t2, ks2, ds2) := by simp only [dicOf, hn]
                obtain ⟨a', e', at2⟩ := dicOf_at ((rx.mono s2 r2).mono s3 r3) rep3 hd2
                cases e'
                have hy := view_vw (ry.mono s3 r3) rep3 hv
                obtain ⟨aa, ea, ev⟩ := (rx.mono s2 r2).mono s3 r3
                cases ev
                obtain ⟨a'', q', e1, ok, out⟩ := rep3.at hn
                rw [ea] at e1; cases e1
                cases ok with
                | @dicK kvs _ _ hks hrr =>
                  obtain ⟨key, hkk⟩ := okKey_k hk
                  have ek := keyOf_eq hkk
                  subst ek
                  subst hks
                  have hyk := vw_key hy hkk
                  subst hyk
                  have hlook := lookK (key := key) hrr
                  refine .inl ⟨kvs, key, (out a _ one_same).2, rfl, by rw [keys_len] at hl; exact hl, fun v hv' => ?_, fun hv' => ?_⟩
                  · cases hl2 : lookL (kvs.map fun q => keyP q.1) ds2 (keyP key) with
                    | none => rw [hl2] at hlook; rw [hv'] at hlook; cases hlook
                    | some r =>
                      rw [hl2] at hlook post3
                      obtain ⟨v2, e3, e4⟩ := hlook
                      rw [hv'] at e3; cases e3
                      exact post3.okv e4 rep3
                  · cases hl2 : lookL (kvs.map fun q => keyP q.1) ds2 (keyP key) with
                    | some r =>
                      rw [hl2] at hlook
                      obtain ⟨v2, e3, e4⟩ := hlook
                      rw [hv'] at e3; cases e3
                    | none =>
                      rw [hl2] at post3
                      exact post3 zv F3 R3 _ rz (rep3.dicSet hn ea (by rw [← putK_keys (v := zv)]; exact .dicK rfl (putK_vals rz hrr))) (Same.refl _) pre_refl
                | @dicN kvs _ _ h1 h2 h3 hrr =>
                  obtain ⟨ps, key, rfl, hnk, hdp⟩ := okKey_n hk
                  have rp := hy.tupP
                  obtain ⟨b, vs, rfl, _, _⟩ := hy.tupE
                  have ksok : KsOk C.K F3 kvs ks2 := ⟨h1, h2, h3⟩
                  have hlook := lookN_of hnk h2 hrr
                  refine .inr ⟨kvs, ks2, b, _, key, (out a _ one_same).2, ksok.mono rep3.sub, rfl, Rp.mono rep3.sub _ _ rp, hnk, hdp, by rw [← ksok.len]; exact hl, fun v hv' => ?_, fun hv' => ?_⟩
                  · cases hl2 : lookL ks2 ds2 (.tup ps) with
                    | none => rw [hl2] at hlook; rw [hv'] at hlook; cases hlook
                    | some r =>
                      rw [hl2] at hlook post3
                      obtain ⟨v2, e3, e4⟩ := hlook
                      rw [hv'] at e3; cases e3
                      exact post3.okv e4 rep3
                  · cases hl2 : lookL ks2 ds2 (.tup ps) with
                    | some r =>
                      rw [hl2] at hlook
                      obtain ⟨v2, e3, e4⟩ := hlook
                      rw [hv'] at e3; cases e3
                    | none =>
                      rw [hl2] at post3
                      have k' := putN_keys (v := zv) hnk hdp rp ksok
                      exact post3 zv F3 R3 _ rz (rep3.dicSet hn ea (.dicN k'.rp k'.nk k'.dp (putN_vals hnk rz h2 hrr))) (Same.refl _) pre_refl
              · rw [if_neg hk] at post3; exact post3.elim
          | _ => simp only [hn] at post3; exact post3.elim))
end
end Z

namespace Z
open PySem PySem.Spec PyProof.Rows L2
/-! ### properties -/
def propB (K : PySem.W.Frag) (C : Addr) (f : Str) : Bool := He.eqO (PySem.W.findIn K (.ref C) f) (some (some (.ref (He.ma K C f)))) && (He.eqO (PySem.W.specialIn K (.ref (He.ma K C f)) "__get__") (some (some (.builtin "property.__get__"))) && (decide (PySem.W.takesIn K (.ref (He.ma K C f)) = some true) && (match PySem.W.recIn K (He.ma K C f) "property" with
  | some (.ref _ :: _) => true
  | _ => false)))
theorem prop_of {K : PySem.W.Frag} {C : Addr} {f : Str} (h : propB K C f = true) : PropOf K C f (He.ma K C f) (He5.wf K C "property" f) := by
  obtain ⟨h1, h⟩ := He.ba h
  obtain ⟨h2, h⟩ := He.ba h
  obtain ⟨h3, h4⟩ := He.ba h
  refine ⟨He.eqO_ok h1, He.eqO_ok h2, of_decide_eq_true h3, ?_⟩
  unfold He5.wf
  split at h4
  · rename_i g rest e
    exact ⟨rest, by rw [e]⟩
  · cases h4
theorem passesNo {X : Cx} {X' : Cx} : Passes (L2.CX X.prog X.w) X' (fun _ _ _ => False) := fun _ _ _ _ _ _ _ c => by
  obtain ⟨_, _, _, _, _, _, _, _, _, _, _, _, z⟩ := c
  exact z.elim
def eProp (cn : Str) (f : Fn) (mo : M) : M := fun sl S => (mo sl S).bind fun d S1 => match insOf S1 d with
  | some (c, _, _) => if c = cn then match f [d] S1 with
      | .ok r S2 => .ok r S2
      | _ => .no
    else .no
  | none => .no
section
variable {C : Kx} {a b c e o : Expr} {es : List Expr} {pos p p' : Pos} {x f cn : Str} {m m1 m2 mo : M} {ma : MA} {fn : Fn} {k : Nat} {g pp : Addr}
theorem okOnly {K : Fr} {G F : Hp} {R : List Addr} {C : Kx} {σ : L2.St} {Q : VK} {r : Rs D} (hK : K = C.K) (hG : G = C.G) (h : Post C σ F R (RelD C.K) Q (match r with | .ok d S2 => .ok d S2 | _ => .no)) : PostF K G F R Q (fun _ _ _ => False) r := by
  subst hK hG
  cases r with
  | ok d S' => exact h
  | exc x S' => exact h.elim
  | no => exact h.elim
theorem ej_prop (hc : Cls C.X.K (He.ga C.X.K cn)) (hp : PropOf C.X.K (He.ga C.X.K cn) f pp g) (hF : C.form k g fn 1 []) (hr : Room (k + 1) C.X.A) (h1 : Ej C mo o) (hab : Bs C o f := by rfl) : Ej C (eProp cn fn mo) (.Attribute o f pos) := by
  obtain ⟨fd, ps, ds, dvs, g1, g2, g3, g4⟩ := hF
  have hd : dvs = [] := by cases (g4 fun _ => none); rfl
  subst hd
  cases g3
  exact .mk fun sl S σ F R H hs hr' Q post =>
    ED.of (pe_prop pe_d hc hp g1 hr g2 .nil passesNo hab) (h1 sl S σ F R H hs hr' _ (Post.bind post fun d S1 x F1 R1 H1 _ rx rep1 s1 r1 post1 => by
      cases hi : insOf S1 d with
      | none => simp only [hi] at post1; exact post1.elim
      | some q =>
        obtain ⟨c, ks, vs⟩ := q
        simp only [hi] at post1
        by_cases hcn : c = cn
        · rw [if_pos hcn] at post1
          subst hcn
          obtain ⟨a, dx, fs, rfl, ea, _, _⟩ := insOf_at rx rep1 hi
          exact ⟨a, dx, fs, rfl, ea, rfl, C.G, F1, R1, S1, [d], rep1, .cons rx .nil, okOnly rfl rfl post1⟩
        · rw [if_neg hcn] at post1; exact post1.elim))
end
/-! ### len of an instance with its own __len__ -/
structure LenC (K : PySem.W.Frag) (C f : Addr) : Prop where
  at_ : PySem.W.findIn K (.ref C) "__len__" = some (some (.ref f))
  fn : PySem.W.isFn K (.ref f) = true
def lenCB (K : PySem.W.Frag) (C : Addr) : Bool := He.eqO (PySem.W.findIn K (.ref C) "__len__") (some (some (.ref (He.ma K C "__len__")))) && PySem.W.isFn K (.ref (He.ma K C "__len__"))
theorem lenC_of {K : PySem.W.Frag} {C : Addr} (h : lenCB K C = true) : LenC K C (He.ma K C "__len__") := by
  obtain ⟨h1, h2⟩ := He.ba h
  exact ⟨He.eqO_ok h1, h2⟩
section
variable {X : Cx} {k : Nat} {f C : Addr} {fd : FuncData} {ps : List Str} {sp : Sp}
theorem run_len {A : Around} {pins : List (Addr × Obj)} {σ : L2.St} {H : Hp} {s : Shared} {Q : VK} {a : Addr} (F : FnOk X.prog X.w X.K X.mg X.base (L2.CX X.prog X.w) k f fd ps sp) (hr : Room k A) (hA : A.frames = X.A.frames) (hb : Binds X.K fd ps []) (I : Inv X pins σ H s) (h : sp [.ref a] H Q (fun _ _ _ => False)) :
    wpAny (model X.prog X.w) A (call (.ref f) [.ref a]) (EP X pins σ Q) X.xe s := by
  have e0 : Env0 X.prog X.w X.K X.mg X.base A X.stack s H := by
    have e := I.env0
    exact ⟨by rw [hA]; exact e.frames, e.mod, e.bs, e.bsz, e.funs, e.frf, e.hok, e.bare⟩
  have hl := F.len _ _ _ _ h
  have r2 : Vals [V.ref a] [Value.ref a] := .cons rfl .nil
  refine wpAny_call (codeAny_mono (F.run A X.stack s H ⟨[.ref a], []⟩ [.ref a] [.ref a] _ _ hr e0 (by
    have := hb s [.ref a] I.kIn (by simpa using hl)
    simpa using this) r2 h) fun r s' hq => ?_)
  cases r with
  | error e =>
    obtain ⟨_, _, _, _, _, _, _, _, _, _, _, _, z⟩ := hq
    exact z.elim
  | ok fl =>
    cases fl with
    | ret w => exact I.after hq
    | next => exact False.elim hq
    | brk => exact False.elim hq
    | cont => exact False.elim hq
def rLenO (C : Addr) (sp : Sp) : List V → Hp → VK → Prop := fun xs H Q => ∃ a dx fs, xs = [.ref a] ∧ H a = some (.ins C dx fs) ∧ sp [.ref a] H (fun v H' => ∃ n : Int, v = .int n ∧ 0 ≤ n ∧ n < 2 ^ 62 ∧ Q (.int n) H') (fun _ _ _ => False)
theorem call_lenO (c : LenC X.K C f) (F : FnOk X.prog X.w X.K X.mg X.base (L2.CX X.prog X.w) k f fd ps sp) (hr : Room (k + 1) X.A) (hb : Binds X.K fd ps []) : CallR X (.builtin "len") (rLenO C sp) := by
  intro pins s σ H xs us Q I r h
  obtain ⟨a, dx, fs, rfl, ha, h⟩ := h
  obtain ⟨u, rfl, ru⟩ := vals1 r
  obtain rfl : u = Value.ref a := ru
  obtain ⟨mA, J, _⟩ := ins_get I.hok ha
  obtain ⟨od, J, _⟩ := J.look
  refine Calls.call_function_entry kind_len plain_len entry_len (args_len1 _) ?_
  unfold Builtin.«len»
  refine wpAny_bind (m := oneArg "len" _) (wpAny_pure ?_)
  have sp1 : ∀ {Q' : Option Value → Shared → Prop} {E : Value → Shared → Prop}, wpAny (model X.prog X.w) X.A.in1 (call (.ref f) [.ref a]) (fun v s' => Q' (some v) s') E s → wpAny (model X.prog X.w) X.A.in1 (callSpecial? (.ref a) (Str.ofString "__len__")) Q' E s := fun q => by
    unfold callSpecial? specialOf
    refine wpAny_bind (wpAny_bind (J.type.here ((PySem.W.looks_findIn I.kIn c.at_).here ?_)))
    refine wpAny_holding ?_
    refine wpAny_bind ((PySem.W.bind_fn I.kIn _ (beq_iff_eq.mp c.fn)).here ?_)
    exact wpAny_bind (wpAny_mono q (fun v s' z => wpAny_pure z) fun _ _ z => z)
  refine wpAny_bind (m := callSpecial? (.ref a) (Str.ofString "__len__")) (sp1 (thn (run_len F hr.in1 rfl hb I h) fun w s' hw => ?_))
  obtain ⟨v, H', I', rv, n, rfl, h0, h1, hq⟩ := hw
  obtain ⟨t, rfl⟩ := rv
  refine wpAny_bind (wpAny_holding (wpAny_pure ?_))
  refine wpAny_bind (wpAny_letGo ?_)
  show wpAny _ _ (if n < 0 then _ else _) _ _ _
  rw [if_neg (by omega)]
  show wpAny _ _ (if n ≥ 2 ^ 63 then _ else _) _ _ _
  rw [if_neg (by omega)]
  exact wpAny_bind (wpAny_mkInt (wpAny_pure ⟨_, rfl, ⟨.int n, H', I'.tok _, ⟨_, rfl⟩, hq⟩⟩))
end

section
variable {C : Kx} {a b c e o o1 o2 e1 e2 : Expr} {es : List Expr} {pos p p' p1 p2 : Pos} {x f f1 f2 cn : Str} {m m1 m2 mo mo1 mo2 me1 me2 : M} {ma : MA} {fn : Fn} {k : Nat} {g : Addr} {cs : List Str}
def eLenO (cn : Str) (f : Fn) (mo : M) : M := fun sl S => (mo sl S).bind fun d S1 => match insOf S1 d with
  | some (c, _, _) => if c = cn then match f [d] S1 with
      | .ok (.p (.int n)) S2 => if 0 ≤ n ∧ n < 2 ^ 62 then .ok (.p (.int n)) S2 else .no
      | _ => .no
    else .no
  | none => .no
theorem ej_lenO (hc : LenC C.X.K (He.ga C.X.K cn) g) (hF : C.form k g fn 1 []) (hr : Room (k + 1) C.X.A) (hm : C.X.mg "len" = none) (h1 : Ej C mo e) (hg : Gl C.X "len" := by rfl) (he : Se C e [] := by exact se_of rfl) (hpl : Pl C [] pos := by exact pl_of rfl) : Ej C (eLenO cn fn mo) (.Call (.Name "len" p) [e] [] pos) := by
  obtain ⟨fd, ps, ds, dvs, g1, g2, g3, g4⟩ := hF
  have hd : dvs = [] := by cases (g4 fun _ => none); rfl
  subst hd
  cases g3
  exact .mk fun sl S σ F R H hs hr' Q post =>
    ED.of (pe_callB (call_lenO hc g1 hr g2) hg hm boot_len (pa_cons pe_d pa_nil he) (by decide) (by decide) he hpl) (h1 sl S σ F R H hs hr' _ (Post.bind post fun d S1 x F1 R1 H1 _ rx rep1 s1 r1 post1 => by
      show rLenO _ _ [x] H1 Q
      cases hi : insOf S1 d with
      | none => simp only [hi] at post1; exact post1.elim
      | some q =>
        obtain ⟨c, ks, vs⟩ := q
        simp only [hi] at post1
        by_cases hcn : c = cn
        · rw [if_pos hcn] at post1
          subst hcn
          obtain ⟨a, dx, fs, rfl, ea, _, _⟩ := insOf_at rx rep1 hi
          refine ⟨a, dx, fs, rfl, ea, rfl, C.G, F1, R1, S1, [d], rep1, .cons rx .nil, ?_⟩
          cases hf : fn [d] S1 with
          | no => rw [hf] at post1; exact post1.elim
          | exc _ _ => rw [hf] at post1; exact post1.elim
          | ok r S2 =>
            rw [hf] at post1
            cases r with
            | ref n => exact post1.elim
            | p q =>
              cases q with
              | int n =>
                simp only [] at post1
                by_cases hn : 0 ≤ n ∧ n < 2 ^ 62
                · rw [if_pos hn] at post1
                  intro v F' R' H' rv rep' s' r'
                  cases (show Rp C.K F' v (.int n) from rv)
                  exact ⟨n, rfl, hn.1, hn.2, post1 _ F' R' H' rv rep' s' r'⟩
                · rw [if_neg hn] at post1; exact post1.elim
              | _ => exact post1.elim
        · rw [if_neg hcn] at post1; exact post1.elim))
/-! self.f1, self.f2 = e1, e2 -/
def gAttr (K : PySem.W.Frag) (to : TE) (f : Str) : TG := fun v σ H Q => to σ H fun x H1 => ∃ a C dx fs, x = .ref a ∧ H1 a = some (.ins C dx fs) ∧ Cls K C ∧ NoAttr K C f ∧ fs.length < 1000 ∧ Q σ (upd H1 a (.ins C dx (putF f v fs)))
theorem pg_attr {X : Cx} {to : TE} (ho : PE X o to) : PG X (.Attribute o f pos) (gAttr X.K to f) := by
  refine ⟨fun pins s σ H v u Q I r h => ?_⟩
  rw [assign_Attribute]
  refine wpAny_bind (wpAny_holding (thn (ho.run pins s σ H _ I h) fun ov s1 ⟨x, H1, I1, rx, a, C, dx, fs, ex, ea, c, n, l, q⟩ => ?_))
  subst ex
  obtain rfl : ov = Value.ref a := rx
  refine wpAny_bind (wpAny_standAt (wpAny_bind (wpAny_holding (setattr_ok I1 ea c n l r fun s3 I3 => ?_))))
  exact wpAny_release ⟨σ, _, I3, q⟩
def sFldV (cs : List Str) (f : Str) (mo : M) (v : D) : MS := fun sl S => (mo sl S).st sl fun d S2 => match d with
  | .ref n => match S2[n]? with
    | some (.ins c ks ds) => if c ∈ cs ∧ ks.length < 1000 then .nx sl (S2.set n (.ins c (putFk f ks) (putFv f v ks ds))) else .no
    | _ => .no
  | _ => .no
theorem fldV_post {x : V} {v : D} {σ : L2.St} {F H : Hp} {R : List Addr} {S : Store} {sl : Slots} {D : Ends} {rest : Slots → Store → Fl} {Q : L2.St → Hp → Prop} (hf : FldOk C.X.K cs f) (h1 : Ej C mo o) (hs : SlR C.K C.px F R σ sl) (rep : Rep C.K C.G F R S H) (rx : RelD C.K F R x v)
    (post : PostS C F R D (match sFldV cs f mo v sl S with | .nx sl2 S2 => rest sl2 S2 | r => r)) (hq : ∀ F' R' S' H', SlR C.K C.px F' R' σ sl → Rep C.K C.G F' R' S' H' → Same F F' → R <+: R' → PostS C F' R' D (rest sl S') → Q σ H') :
    gAttr C.X.K (ED C.X o) f x σ H Q := by
  refine h1 sl S σ F R H hs rep _ ?_
  unfold sFldV at post
  cases hm : mo sl S with
  | no => rw [hm] at post; exact post.elim
  | exc xx S1 => rw [hm] at post; exact fun c d F' R' H' h0 h1 h2 h3 => post c d σ F' R' H' h0 (hs.mono h2 h3) h1 h2 h3
  | ok d S2 =>
    rw [hm] at post
    intro y F2 R2 H2 ry rep2 s2 r2
    simp only [Rs.st] at post
    cases d with
    | p q => exact post.elim
    | ref n =>
      cases hn : S2[n]? with
      | none => simp only [hn] at post; exact post.elim
      | some cl =>
        cases cl with
        | ins c ks ds =>
          simp only [hn] at post
          by_cases hc : c ∈ cs ∧ ks.length < 1000
          · rw [if_pos hc] at post
            obtain ⟨a, q, e1, ok, out⟩ := rep2.at hn
            obtain ⟨a', e1', rfl⟩ := ry
            rw [e1] at e1'; cases e1'
            cases ok with
            | @ins dx _ fs _ _ hd hk hr' =>
              subst hk
              refine ⟨a, _, dx, fs, rfl, (out a _ two_fst).2, (hf c hc.1).1, (hf c hc.1).2, by have := hc.2; rw [List.length_map] at this; exact this, ?_⟩
              have ha := (out a _ two_fst).2
              clear out
              refine hq F2 R2 _ _ (hs.mono s2 r2) (rep2.mut (q' := id) hn e1 fun q ok hq => ?_) s2 r2 (PostS.mono post s2 r2)
              cases ok with
              | @ins dx' _ fs' _ _ hd' hk' hr2 =>
                have e2 := hq a _ two_fst
                rw [ha] at e2
                cases e2
                refine ⟨by rw [two_fst]; exact fun z => (nomatch z), ?_⟩
                have e3 : upd (two a (.ins (He.ga C.X.K c) dx fs) dx (.own a)) a (.ins (He.ga C.X.K c) dx (putF f x fs)) = two a (.ins (He.ga C.X.K c) dx (putF f x fs)) dx (.own a) := by
                  funext b
                  unfold upd two
                  by_cases hb : b = a
                  · rw [if_pos hb, if_pos hb]
                  · rw [if_neg hb, if_neg hb, if_neg hb]
                rw [e3]
                exact .ins hd (putF_keys fs).symm (putF_vals (rx.mono s2 r2) hr2)
          · rw [if_neg hc] at post; exact post.elim
        | _ => simp only [hn] at post; exact post.elim
def sParF2 (cs : List Str) (f1 f2 : Str) (mo1 mo2 : M) (ma : MA) : MS := fun sl S => (ma sl S).st sl fun ds S1 => match ds with
  | [d1, d2] => match sFldV cs f1 mo1 d1 sl S1 with
    | .nx sl2 S2 => match sFldV cs f2 mo2 d2 sl2 S2 with
      | .nx sl3 S3 => .nx sl3 S3
      | r => r
    | r => r
  | _ => .no
theorem sj_parF2 {pt1 pt2 : Pos} {kt k2 : Nat} {a1 a2 : Expr} (hc : C.X.calm = true) (hf1 : FldOk C.X.K cs f1) (hf2 : FldOk C.X.K cs f2) (h : Aj C ma [a1, a2]) (h1 : Ej C mo1 o1) (h2 : Ej C mo2 o2)
    (hw : swappedStores [.Tuple [.Attribute o1 f1 p1, .Attribute o2 f2 p2] kt pt1] (.Tuple [a1, a2] k2 pt2) C.X.env = pure none := by rfl)
    (hs' : swapsWithSole [.Tuple [.Attribute o1 f1 p1, .Attribute o2 f2 p2] kt pt1] (.Tuple [a1, a2] k2 pt2) pos.line C.X.env = pure false := by rfl) :
    Sj1 C (sParF2 cs f1 f2 mo1 mo2 ma) (.Assign [.Tuple [.Attribute o1 f1 p1, .Attribute o2 f2 p2] kt pt1] (.Tuple [a1, a2] k2 pt2) pos) := .mk fun sl S σ F R H hs hr D post =>
  SD1.of (ps_asg (pe_tup pa_d) (pg_tup hc (pgs_cons (pg_attr pe_d) (pgs_cons (pg_attr pe_d) pgs_nil))) hs' hw) (h sl S σ F R H hs hr _ (PostS.bind post hs fun ds S1 vs F1 R1 H1 _ rx rep1 s1 r1 hs1 post1 => by
    by_cases hl : ds.length = 2
    · obtain ⟨v, w, d, e, rfl, rfl, q1, q2⟩ := rel2 rx hl
      refine ⟨by show 2 ≤ sizeLine; decide, fun p hp => ⟨p, [v, w], rfl, .inl (.inl upd_same), rfl, v, _, rfl, ?_⟩⟩
      refine fldV_post (rest := fun sl2 S2 => match sFldV cs f2 mo2 e sl2 S2 with | .nx sl3 S3 => .nx sl3 S3 | r => r) hf1 h1 hs1 (rep1.own hp) q1 post1 fun F2 R2 S2 H2 hs2 rep2 s2 r2 post2 => ?_
      refine ⟨w, _, rfl, ?_⟩
      refine fldV_post (rest := fun sl3 S3 => .nx sl3 S3) hf2 h2 hs2 rep2 (q2.mono s2 r2) post2 fun F3 R3 S3 H3 hs3 rep3 s3 r3 post3 => ?_
      exact ⟨rfl, post3 _ F3 R3 _ hs3 rep3 (Same.refl _) pre_refl⟩
    · match ds, hl with
      | [], _ => exact post1.elim
      | [_], _ => exact post1.elim
      | _ :: _ :: _ :: _, _ => exact post1.elim))
end
end Z

namespace Z
open PySem PySem.Spec PyProof.Rows L2
/-! ### sorted(ints) -/
def insI (x : Int) : List Int → List Int
  | [] => [x]
  | y :: ys => if x ≤ y then x :: y :: ys else y :: insI x ys
def sortI : List Int → List Int
  | [] => []
  | x :: xs => insI x (sortI xs)
theorem insI_perm (x : Int) : ∀ ys : List Int, (insI x ys).Perm (x :: ys)
  | [] => .refl _
  | y :: ys => by
    unfold insI
    split
    · exact .refl _
    · exact ((insI_perm x ys).cons y).trans (.swap ..)
theorem sortI_perm : ∀ xs : List Int, (sortI xs).Perm xs
  | [] => .refl _
  | x :: xs => (insI_perm x _).trans ((sortI_perm xs).cons x)
theorem insI_sorted (x : Int) : ∀ ys : List Int, ys.Pairwise (· ≤ ·) → (insI x ys).Pairwise (· ≤ ·)
  | [], _ => by simp [insI]
  | y :: ys, h => by
    unfold insI
    obtain ⟨h1, h2⟩ := List.pairwise_cons.mp h
    split
    · rename_i hxy
      refine List.pairwise_cons.mpr ⟨fun z hz => ?_, h⟩
      rcases List.mem_cons.mp hz with rfl | hz
      · exact hxy
      · exact Int.le_trans hxy (h1 z hz)
    · rename_i hxy
      refine List.pairwise_cons.mpr ⟨fun z hz => ?_, insI_sorted x ys h2⟩
      rcases List.mem_cons.mp ((insI_perm x ys).subset hz) with rfl | hz
      · omega
      · exact h1 z hz
theorem sortI_sorted : ∀ xs : List Int, (sortI xs).Pairwise (· ≤ ·)
  | [] => .nil
  | x :: xs => insI_sorted x _ (sortI_sorted xs)
theorem sorted_uniq : ∀ {xs ys : List Int}, xs.Perm ys → xs.Pairwise (· ≤ ·) → ys.Pairwise (· ≤ ·) → xs = ys
  | [], ys, h, _, _ => by rw [List.nil_perm.mp h]
  | x :: xs, [], h, _, _ => by have := h.length_eq; simp at this
  | x :: xs, y :: ys, h, h1, h2 => by
    obtain ⟨a1, a2⟩ := List.pairwise_cons.mp h1
    obtain ⟨b1, b2⟩ := List.pairwise_cons.mp h2
    have hx : x ∈ y :: ys := h.subset (List.mem_cons_self ..)
    have hy : y ∈ x :: xs := h.symm.subset (List.mem_cons_self ..)
    have e : x = y := by
      rcases List.mem_cons.mp hx with e | hx
      · exact e
      · rcases List.mem_cons.mp hy with e | hy
        · exact e.symm
        · have := a1 y hy
          have := b1 x hx
          omega
    subst e
    rw [sorted_uniq ((List.perm_cons x).mp h) a2 b2]
def intsZ : List P → Option (List Int)
  | [] => some []
  | .int i :: ps => (intsZ ps).map (i :: ·)
  | _ => none
theorem intsZ_eq : ∀ {ps : List P} {ns : List Int}, intsZ ps = some ns → ps = ns.map .int
  | [], _, h => by cases h; rfl
  | .int i :: ps, ns, h => by
    simp only [intsZ] at h
    cases hp : intsZ ps with
    | none => rw [hp] at h; cases h
    | some ms => rw [hp] at h; cases h; rw [intsZ_eq hp]; rfl
  | .non :: _, _, h => by cases h
  | .bl _ :: _, _, h => by cases h
  | .str _ :: _, _, h => by cases h
  | .tup _ :: _, _, h => by cases h
  | .lst _ :: _, _, h => by cases h
  | .dic _ _ _ :: _, _, h => by cases h
  | .ins _ _ _ :: _, _, h => by cases h
  | .glo _ :: _, _, h => by cases h
  | .ty _ :: _, _, h => by cases h
  | .scr _ :: _, _, h => by cases h
  | .exv _ _ _ :: _, _, h => by cases h
theorem intsZ_map : ∀ ns : List Int, intsZ (ns.map .int) = some ns
  | [] => rfl
  | n :: ns => by simp only [List.map_cons, intsZ, intsZ_map ns, Option.map_some]
theorem rp_intsZ {K : Fr} {F : Hp} : ∀ {ns : List Int} {vs : List V}, RpAll K F vs (ns.map .int) → vs = ns.map V.int
  | [], _, h => by cases h; rfl
  | n :: ns, _, h => by
    cases h with
    | cons h1 h2 => cases h1; rw [rp_intsZ h2]; rfl
theorem ints_rpZ {K : Fr} {F : Hp} : ∀ ns : List Int, RpAll K F (ns.map V.int) (ns.map .int)
  | [] => .nil
  | n :: ns => .cons (.int n) (ints_rpZ ns)
def sortedP : List P → Option P
  | [.lst ps] => (intsZ ps).map fun ns => .lst ((sortI ns).map .int)
  | _ => none
section
variable {K : Fr}
theorem cv_sortedI : CallV K (rSortedI K.K) sortedP := fun ps z vs F H Q e hx s k => by
  unfold sortedP at e
  split at e
  · obtain ⟨v, rfl, h⟩ := vw1 hx
    rename_i qs
    cases hi : intsZ qs with
    | none => rw [hi] at e; cases e
    | some ns =>
      rw [hi] at e
      cases e
      have := intsZ_eq hi
      subst this
      obtain ⟨a, ws, rfl, h1, h2⟩ := h.lstE s
      rw [rp_intsZ h2] at h1
      refine ⟨a, ns, rfl, .inl (.inl h1), fun ns' p hp hs hn => ?_⟩
      rw [sorted_uniq (hp.trans (sortI_perm ns).symm) hs (sortI_sorted ns)]
      exact k (.ref p) _ _ (.lst upd_same (ints_rpZ _)) (Grow.new s hn)
  · cases e
end
section
variable {C : Kx} {a b c e o iter1 tg1 : Expr} {es : List Expr} {pos p : Pos} {m m1 m2 mo me : M} {ma : MA}
theorem ej_sorted (hm : C.X.mg "sorted" = none) (h : Aj C ma (e :: es)) (hg : Gl C.X "sorted" := by rfl) (he : Se C e es := by exact se_of rfl) (hpl : Pl C es pos := by exact pl_of rfl) : Ej C (eF sortedP ma) (.Call (.Name "sorted" p) (e :: es) [] pos) := ej_callB cr_sortedI cv_sortedI hm (by decide +kernel) h hg (he := he) (hpl := hpl)
/-! ### x or y, of any values -/
def eOrV (m1 m2 : M) : M := fun sl S => (m1 sl S).bind fun d S1 => match view S1 d with
  | some q => match truP q with
    | some true => .ok d S1
    | some false => m2 sl S1
    | none => .no
  | none => .no
theorem ej_orV (h1 : Ej C m1 a) (h2 : Ej C m2 b) : Ej C (eOrV m1 m2) (.BoolOp .Or [a, b] pos) := .mk fun sl S σ F R H hs hr Q post =>
  ED.of (pe_orT pe_d (pe_one pe_d)) (h1 sl S σ F R H hs hr _ (Post.bind post fun d S1 x F1 R1 H1 _ rx rep1 s1 r1 post1 => by
    cases hv : view S1 d with
    | none => simp only [hv] at post1; exact post1.elim
    | some q =>
      simp only [hv] at post1
      cases ht : truP q with
      | none => simp only [ht] at post1; exact post1.elim
      | some k =>
        refine ⟨k, tru_of (view_vw rx rep1 hv) rep1.sub ht, ?_⟩
        cases k with
        | true =>
          simp only [ht] at post1
          exact post1.okv rx rep1
        | false =>
          simp only [ht] at post1
          exact h2 sl S1 σ F1 R1 H1 (hs.mono s1 r1) rep1 Q post1))
end
/-! ### [e for a in xs for b in ys] -/
def IDX (X : Cx) (tg iter : Expr) : TI := fun σ H R => ∀ (pins : List (Addr × Obj)) (s : Shared), Inv X pins σ H s → wpAny (model X.prog X.w) X.A (eval iter X.env) (fun v s1 => wpAny (model X.prog X.w) X.A (pyIter v) (PIE X pins σ tg R) X.xe s1) X.xe s
theorem pi_d {X : Cx} {tg iter : Expr} : PI X tg iter (IDX X tg iter) := ⟨fun pins s σ H R I h => h pins s I⟩
theorem IDX.of {X : Cx} {tg iter : Expr} {wi : TI} {σ : L2.St} {H : Hp} {R : It → Hp → Prop} (h : PI X tg iter wi) (q : wi σ H R) : IDX X tg iter σ H R := fun pins s I => h.run pins s σ H R I q
def IB (X : Cx) (scope : Scope) (tg iter : Expr) : TI := fun σ H R => ∀ B, BlkX X scope B → IDX B tg iter σ H R
theorem pi_b {X : Cx} {scope : Scope} {tg iter : Expr} (s : Shared) (H : Hp) (Cc : Addr) (cl : List (Str × Addr)) (fp : List Addr) : PI (X.blk s H scope (compEnvC scope cl Cc X.env) fp) tg iter (IB X scope tg iter) := ⟨fun pins s' σ H' R I h => h _ (blkX_mk s H Cc cl fp) pins s' I⟩
/-- what the inner clause walks, in every block -/
def SrcB (C : Kx) (scope : Scope) (tg iter : Expr) (ms : MI) : Prop := ∀ B : Kx, BlkX C.X scope B.X → ∃ wi, PI B.X tg iter wi ∧ SrcOk B wi ms
structure TurnI (C : Kx) (wi : TI) (ms : MI) : Prop where
  i : ∀ (G : Hp) sl S σ F R H, SlR C.K C.px F R σ sl → Rep C.K G F R S H → ∀ its S1, ms sl S = .ok its S1 → ∀ Q : It → Hp → Prop, (∀ J F' R' H', ItOk C.K J F' its → Rep C.K G F' R' S1 H' → Same F F' → R <+: R' → Q J H') → wi σ H Q
theorem turn_i {C : Kx} {scope : Scope} {tg iter : Expr} {ms : MI} (h : SrcB C scope tg iter ms) : TurnI C (IB C.X scope tg iter) ms := ⟨by
  intro G sl S σ F R H hs hr its S1 em Q k BX hB
  have hK := blk_K hB
  obtain ⟨wi, hpi, hsrc⟩ := h ⟨BX, fun _ _ _ _ => False, takes0, G, C.px⟩ hB
  refine IDX.of hpi (hsrc sl S σ F R H (by show SlR (frX BX) C.px F R σ sl; rw [hK]; exact hs) (by show Rep (frX BX) G F R S H; rw [hK]; exact hr) Q ?_)
  rw [em]
  intro J F' R' H' h1 h2 h3 h4
  exact k J F' R' H' (by have z : ItOk (frX BX) J F' its := h1; rw [hK] at z; exact z) (by have z : Rep (frX BX) G F' R' S1 H' := h2; rw [hK] at z; exact z) h3 h4⟩
def lcL2 (eff : Eff) (t : MT) (ms1 : MI) (eff1 : Eff) (t1 : MT) (elt : M) (own vs1 : List Nat) (sl : Slots) : List P → List P → Store → Rs (List P)
  | [], acc, S => .ok acc S
  | q :: qs, acc, S => match eff q (wipeS sl own) with
    | none => .no
    | some sl1 => match t sl1 S with
      | .ok true S1 => match ms1 sl1 S1 with
        | .ok its1 S2 => match lcL eff1 t1 elt vs1 sl1 its1 acc S2 with
          | .ok acc2 S3 => lcL2 eff t ms1 eff1 t1 elt own vs1 sl qs acc2 S3
          | _ => .no
        | _ => .no
      | .ok false S1 => lcL2 eff t ms1 eff1 t1 elt own vs1 sl qs acc S1
      | _ => .no
def eLc2 (ms : MI) (eff : Eff) (t : MT) (ms1 : MI) (eff1 : Eff) (t1 : MT) (me : M) (own vs1 : List Nat) : M := fun sl S => (ms sl S).bind fun its S1 => (lcL2 eff t ms1 eff1 t1 me own vs1 sl its [] S1).bind fun ps S2 => .ok (.p (.lst ps)) S2
section
variable {C : Kx} {a b c e tg iter tg1 iter1 elt : Expr} {pos : Pos} {me : M} {t t1 : MT} {ms ms1 : MI} {g g1 : TG} {eff eff1 : Eff} {js js1 vs vs1 : List Nat} {wi wi1 : TI} {scope : Scope} {own : List (Str × Nat)}
theorem lc2_read {tt tt1 : TT} {te : TE} {σ : L2.St} {F H : Hp} {R : List Addr} {sl : Slots} {S : Store} {Q : VK} (hs : SlR C.K C.px F R σ sl) (hr : Rep C.K C.G F R S H) (hsrc : SrcOk C wi ms) (ho : GOk C.K g eff js) (hj : ∀ j ∈ js, j ∈ vs) (ho1 : GOk C.K g1 eff1 js1) (hj1 : ∀ j ∈ js1, j ∈ vs1)
    (ht : TurnOk C tt te t me) (ht1 : TurnOk C tt1 te t1 me) (hi1 : TurnI C wi1 ms1)
    (post : Post C σ F R (RelD C.K) Q (eLc2 ms eff t ms1 eff1 t1 me vs vs1 sl S)) : tLc2 wi g tt wi1 g1 tt1 te vs vs1 σ H Q := by
  refine hsrc sl S σ F R H hs hr _ (Post.bind post fun its S1 J F1 R1 H1 _ ok rep1 s1 r1 post1 => ?_)
  intro D hD
  have hs1 := hs.mono s1 r1
  have nG := rep1.gnone hD
  let Pv : Nat → Hp → Prop := fun i H => ∃ (F2 : Hp) (R2 : List Addr) (S2 : Store) (acc : List P) (ws : List V), Same F1 F2 ∧ R1 <+: R2 ∧ Rep C.K (upd C.G D (.lst ws)) F2 R2 S2 H ∧ RpAll C.K F2 ws acc ∧ Post C σ F2 R2 (RelD C.K) Q ((lcL2 eff t ms1 eff1 t1 me vs vs1 sl (its.drop i) acc S2).bind fun ps S2 => .ok (.p (.lst ps)) S2)
  have start : Pv 0 (upd H1 D (.lst [])) := ⟨F1, R1, S1, [], [], Same.refl _, pre_refl, rep1.guard hD, .nil, post1⟩
  refine ⟨fun i m H => m = its.length - i ∧ i ≤ its.length ∧ Pv i H, ⟨its.length, rfl, Nat.zero_le _, start⟩, ?_⟩
  rintro i m H ⟨rfl, hi, F2, R2, S2, acc, ws, s2, r2, rep2, hr2, post2⟩
  by_cases hlt : i < its.length
  · have hit : its[i]? = some its[i] := List.getElem?_eq_getElem hlt
    have hd : its.drop i = its[i] :: its.drop (i + 1) := List.drop_eq_getElem_cons hlt
    rw [hd] at post2
    obtain ⟨q1, q2⟩ := ok.go i _ F2 H hit s2 rep2.sub
    refine .inr ⟨q1, Pv (i + 1), fun H' p' => ⟨its.length - (i + 1), by omega, rfl, hlt, p'⟩, fun v H' hy => ?_⟩
    obtain ⟨F3, gr3, rv⟩ := q2 v H' hy
    have rep3 := rep2.grow gr3
    simp only [lcL2] at post2
    cases he : eff its[i] (wipeS sl vs) with
    | none => simp only [he] at post2; exact post2.elim
    | some sl3 =>
      simp only [he] at post2
      refine ho _ _ sl3 _ F3 R2 H' v _ he rv ((hs1.mono (s2.trans gr3.sF) r2).wipe vs) gr3.sub fun σ3 hs3 off => ?_
      refine ⟨by rw [off.wipe hj, wipe_wipe], ?_⟩
      have e1 : Same F1 F3 := s2.trans gr3.sF
      cases htt : t sl3 S2 with
      | exc x S4 => simp only [htt] at post2; exact post2.elim
      | no => simp only [htt] at post2; exact post2.elim
      | ok b S4 =>
        refine ht.t _ sl3 S2 σ3 F3 R2 H' hs3 rep3 b S4 htt _ fun F4 R4 H4 rep4 s4 r4 => ?_
        have post2 := Post.mono post2 (gr3.sF.trans s4) r4
        cases b with
        | false =>
          simp only [htt] at post2
          show Pv (i + 1) H4
          exact ⟨F4, R4, S4, acc, ws, e1.trans s4, pre_trans r2 r4, rep4, RpAll.mono (gr3.sF.trans s4) _ _ hr2, post2⟩
        | true =>
          simp only [htt] at post2
          have hs4 := hs3.mono s4 r4
          have hr4 := RpAll.mono (gr3.sF.trans s4) _ _ hr2
          show wi1 σ3 H4 _
          cases hms : ms1 sl3 S4 with
          | exc x S5 => simp only [hms] at post2; exact post2.elim
          | no => simp only [hms] at post2; exact post2.elim
          | ok its1 S5 =>
            simp only [hms] at post2
            refine hi1.i _ sl3 S4 σ3 F4 R4 H4 hs4 rep4 its1 S5 hms _ fun J1 F5 R5 H5 ok1 rep5 s5 r5 => ?_
            have post2 := Post.mono post2 s5 r5
            let Pw : Nat → Hp → Prop := fun j H => ∃ (F6 : Hp) (R6 : List Addr) (S6 : Store) (acc6 : List P) (ws6 : List V), Same F5 F6 ∧ R5 <+: R6 ∧ Rep C.K (upd C.G D (.lst ws6)) F6 R6 S6 H ∧ RpAll C.K F6 ws6 acc6 ∧
              Post C σ F6 R6 (RelD C.K) Q (((match lcL eff1 t1 me vs1 sl3 (its1.drop j) acc6 S6 with
                | .ok acc2 S3 => lcL2 eff t ms1 eff1 t1 me vs vs1 sl (its.drop (i + 1)) acc2 S3
                | _ => .no) : Rs (List P)).bind fun ps S2 => .ok (.p (.lst ps)) S2)
            have start1 : Pw 0 H5 := ⟨F5, R5, S5, acc, ws, Same.refl _, pre_refl, rep5, RpAll.mono s5 _ _ hr4, post2⟩
            refine ⟨fun j k H => k = its1.length - j ∧ j ≤ its1.length ∧ Pw j H, ⟨its1.length, rfl, Nat.zero_le _, start1⟩, ?_⟩
            rintro j k H6 ⟨rfl, hjl, F6, R6, S6, acc6, ws6, s6, r6, rep6, hr6, post6⟩
            by_cases hlt1 : j < its1.length
            · have hit1 : its1[j]? = some its1[j] := List.getElem?_eq_getElem hlt1
              have hd1 : its1.drop j = its1[j] :: its1.drop (j + 1) := List.drop_eq_getElem_cons hlt1
              rw [hd1] at post6
              obtain ⟨w1, w2⟩ := ok1.go j _ F6 H6 hit1 s6 rep6.sub
              refine .inr ⟨w1, Pw (j + 1), fun H' p' => ⟨its1.length - (j + 1), by omega, rfl, hlt1, p'⟩, fun v1 H7 hy1 => ?_⟩
              obtain ⟨F7, gr7, rv1⟩ := w2 v1 H7 hy1
              have rep7 := rep6.grow gr7
              simp only [lcL] at post6
              cases he1 : eff1 its1[j] (wipeS sl3 vs1) with
              | none => simp only [he1] at post6; exact post6.elim
              | some sl7 =>
                simp only [he1] at post6
                refine ho1 _ _ sl7 _ F7 R6 H7 v1 _ he1 rv1 ((hs4.mono ((s5.trans s6).trans gr7.sF) (pre_trans r5 r6)).wipe vs1) gr7.sub fun σ7 hs7 off7 => ?_
                refine ⟨by rw [off7.wipe hj1, wipe_wipe], ?_⟩
                have e7 : Same F5 F7 := s6.trans gr7.sF
                cases htt1 : t1 sl7 S6 with
                | exc x S8 => simp only [htt1] at post6; exact post6.elim
                | no => simp only [htt1] at post6; exact post6.elim
                | ok b S8 =>
                  refine ht1.t _ sl7 S6 σ7 F7 R6 H7 hs7 rep7 b S8 htt1 _ fun F8 R8 H8 rep8 s8 r8 => ?_
                  have post6 := Post.mono post6 (gr7.sF.trans s8) r8
                  cases b with
                  | false =>
                    simp only [htt1] at post6
                    show Pw (j + 1) H8
                    exact ⟨F8, R8, S8, acc6, ws6, e7.trans s8, pre_trans r6 r8, rep8, RpAll.mono (gr7.sF.trans s8) _ _ hr6, post6⟩
                  | true =>
                    simp only [htt1] at post6
                    show te σ7 H8 _
                    cases hme : me sl7 S8 with
                    | exc x S9 => simp only [hme] at post6; exact post6.elim
                    | no => simp only [hme] at post6; exact post6.elim
                    | ok d S9 =>
                      cases d with
                      | ref n => simp only [hme] at post6; exact post6.elim
                      | p z =>
                        simp only [hme] at post6
                        refine ht1.e _ sl7 S8 σ7 F8 R8 H8 (hs7.mono s8 r8) rep8 _ S9 hme _ fun y F9 R9 H9 ry rep9 s9 r9 => ?_
                        have post6 := Post.mono post6 s9 r9
                        have hr9 := RpAll.mono ((gr7.sF.trans s8).trans s9) _ _ hr6
                        by_cases hl : acc6.length < sizeLine
                        · simp only [if_pos hl] at post6
                          have hD9 : H9 D = some (.lst ws6) := by
                            obtain ⟨pc, q⟩ := rep9
                            exact (q.grd D _ upd_same).1
                          exact ⟨ws6, hD9, by rw [hr9.length]; exact hl, F9, R9, S9, acc6 ++ [z], ws6 ++ [y], (e7.trans s8).trans s9, pre_trans (pre_trans r6 r8) r9, rep9.regrow, hr9.append (.cons ry .nil), post6⟩
                        · simp only [if_neg hl] at post6; exact post6.elim
            · have e : j = its1.length := by omega
              subst e
              rw [List.drop_length] at post6
              refine .inl ⟨ok1.stop F6 H6 s6 rep6.sub, ?_⟩
              show Pv (i + 1) H6
              exact ⟨F6, R6, S6, acc6, ws6, ((e1.trans s4).trans s5).trans s6, pre_trans (pre_trans (pre_trans r2 r4) r5) r6, rep6, hr6, post6⟩
  · have e : i = its.length := by omega
    subst e
    rw [List.drop_length] at post2
    refine .inl ⟨ok.stop F2 H s2 rep2.sub, ?_⟩
    obtain ⟨sK, repK⟩ := rep2.known nG
    exact post2 (.ref D) _ R2 H (show RelD C.K _ R2 (.ref D) (.p (.lst acc)) from .lst upd_same (RpAll.mono sK _ _ hr2)) repK sK pre_refl
theorem tt_yes {te : TE} (h : ∀ (G : Hp) sl S σ F R H, SlR C.K C.px F R σ sl → Rep C.K G F R S H → ∀ d S1, me sl S = .ok d S1 → ∀ Q : VK, (∀ v F' R' H', RelD C.K F' R' v d → Rep C.K G F' R' S1 H' → Same F F' → R <+: R' → Q v H') → te σ H Q) : TurnOk C (fun σ H Q => Q true H) te tYes me :=
  ⟨fun G sl S σ F R H hs hr b S1 e Q k => by cases e; exact k F R H hr (Same.refl _) pre_refl, h⟩
theorem ej_lc20 (hc : C.X.calm = true) (hN : C.X.N.Nodup) (hi : PI C.X tg iter wi) (hsrc : SrcOk C wi ms) (ok : BlkOk C.X.N C.X.env.scope scope own) (hg : TgB C scope tg g) (ho : GOk C.K g eff js) (hj : ∀ j ∈ js, j ∈ own.map (·.2)) (hi1 : SrcB C scope tg1 iter1 ms1) (hg1 : TgB C scope tg1 g1) (ho1 : GOk C.K g1 eff1 js1) (hj1 : ∀ j ∈ js1, j ∈ vs1) (hv1 : ∀ i ∈ vs1, i ∈ own.map (·.2)) (he : EjB C scope me elt)
    (hf : ∀ x, foldedSetIterable iter C.X.env x = pure x := by intro _; rfl) (hf1 : ∀ env x, foldedSetIterable iter1 env x = pure x := by intro _ _; rfl) : Ej C (eLc2 ms eff tYes ms1 eff1 tYes me (own.map (·.2)) vs1) (.ListComp elt [⟨tg, iter, [], 0⟩, ⟨tg1, iter1, [], 0⟩] scope pos) := .mk fun sl S σ F R H hs hr Q post =>
  ED.of (pe_lc2 hc hN hi ok hv1 hg (fun _ _ _ _ _ => pts_nil) (fun s H Cc cl fp => pi_b s H Cc cl fp) hg1 (fun _ _ _ _ _ => pts_nil) (fun s H Cc cl fp => pe_b s H Cc cl fp) hf hf1) (lc2_read hs hr hsrc ho hj ho1 hj1 (tt_yes (turn_e he)) (tt_yes (turn_e he)) (turn_i hi1) post)
theorem ej_lc21 (hc : C.X.calm = true) (hN : C.X.N.Nodup) (hi : PI C.X tg iter wi) (hsrc : SrcOk C wi ms) (ok : BlkOk C.X.N C.X.env.scope scope own) (hg : TgB C scope tg g) (ho : GOk C.K g eff js) (hj : ∀ j ∈ js, j ∈ own.map (·.2)) (hi1 : SrcB C scope tg1 iter1 ms1) (hg1 : TgB C scope tg1 g1) (ho1 : GOk C.K g1 eff1 js1) (hj1 : ∀ j ∈ js1, j ∈ vs1) (hv1 : ∀ i ∈ vs1, i ∈ own.map (·.2)) (htt : TjB C scope t1 c) (he : EjB C scope me elt)
    (hf : ∀ x, foldedSetIterable iter C.X.env x = pure x := by intro _; rfl) (hf1 : ∀ env x, foldedSetIterable iter1 env x = pure x := by intro _ _; rfl) : Ej C (eLc2 ms eff tYes ms1 eff1 t1 me (own.map (·.2)) vs1) (.ListComp elt [⟨tg, iter, [], 0⟩, ⟨tg1, iter1, [c], 0⟩] scope pos) := .mk fun sl S σ F R H hs hr Q post =>
  ED.of (pe_lc2 hc hN hi ok hv1 hg (fun _ _ _ _ _ => pts_nil) (fun s H Cc cl fp => pi_b s H Cc cl fp) hg1 (fun s H Cc cl fp => pts_one (pt_b s H Cc cl fp)) (fun s H Cc cl fp => pe_b s H Cc cl fp) hf hf1) (lc2_read hs hr hsrc ho hj ho1 hj1 (tt_yes (turn_e he)) ⟨turn_t htt, turn_e he⟩ (turn_i hi1) post)
end
end Z

namespace Z
open PySem PySem.Spec PyProof.Rows L2
/-! ### C(.., k = v, ..): keywords in the order of the parameters -/
def KD (X : Cx) (kws : List Keyword) : TA := fun σ H Q => ∀ (pos : Pos) (pins : List (Addr × Obj)) (s : Shared), Inv X pins σ H s → wpAny (model X.prog X.w) X.A (evalAll ((backToKw pos (keywordEach kws X.env)).map (·.2))) (AP X pins σ Q) X.xe s
theorem pk_d {X : Cx} {kws : List Keyword} : PK X kws (KD X kws) := ⟨fun pos pins s _ _ _ I h => h pos pins s I⟩
theorem KD.of {X : Cx} {kws : List Keyword} {t : TA} {σ : L2.St} {H : Hp} {Q : List V → Hp → Prop} (h : PK X kws t) (q : t σ H Q) : KD X kws σ H Q := fun pos pins s I => h.run pos pins s σ H Q I q
structure Kj (C : Kx) (m : MA) (kws : List Keyword) : Prop where
  run : ∀ sl S σ F R H, SlR C.K C.px F R σ sl → Rep C.K C.G F R S H → ∀ Q : List V → Hp → Prop, Post C σ F R (RelAll C.K) Q (m sl S) → KD C.X kws σ H Q
def onlyOk (m : M) : M := fun sl S => match m sl S with
  | .ok d S' => .ok d S'
  | _ => .no
def maK (ma mk : MA) : MA := fun sl S => (ma sl S).bind fun ds S1 => (mk sl S1).bind fun es S2 => .ok (ds ++ es) S2
section
variable {C : Kx} {e : Expr} {es : List Expr} {kws : List Keyword} {pos p kpos : Pos} {x : Str} {nm : Option Str} {ma mk : MA} {m : M} {fn : Fn} {k n : Nat} {dfl : List P} {f : Addr} {ks : List Str}
theorem kj_nil : Kj C aN [] := ⟨fun sl S σ F R H hs hr Q post => KD.of pk_nil (post.okv .nil hr)⟩
theorem kj_cons (h1 : Ej C m e) (h2 : Kj C ma kws) : Kj C (aC m ma) (⟨nm, e, kpos⟩ :: kws) := ⟨fun sl S σ F R H hs hr Q post =>
  KD.of (pk_cons pe_d pk_d) (h1 sl S σ F R H hs hr _ (Post.bind post fun d S1 x F1 R1 H1 _ rx rep1 s1 r1 post1 => h2.run sl S1 σ F1 R1 H1 (hs.mono s1 r1) rep1 _ (Post.bind post1 fun ds S2 ys F2 R2 H2 _ ry rep2 s2 r2 post2 =>
    post2.okv (b := x :: ys) (.cons (rx.mono s2 r2) ry) rep2)))⟩
/-- a def with keyword-only parameters: n positional values (self among them), keywords ks, then the defaults -/
def FormK (P : Program) (w : World) (K : PySem.W.Frag) (mg : Str → Option Value) (base : Heap) (k : Nat) (f : Addr) (fn : Fn) (n : Nat) (ks : List Str) (dfl : List Z.P) : Prop :=
  ∃ fd ps g dvs, FnOk P w K mg base (L2.CX P w) k f fd ps (spF ⟨K, P, w⟩ (n + ks.length + dfl.length) fn) ∧ KBn K fd ps n ks g (fun vs zs => vs ++ zs ++ dvs) ∧ ∀ F, RpAll ⟨K, P, w⟩ F dvs dfl
abbrev Kx.formK (C : Kx) (k : Nat) (f : Addr) (fn : Fn) (n : Nat) (ks : List Str) (dfl : List P) : Prop := FormK C.X.prog C.X.w C.X.K C.X.mg C.X.base k f fn n ks dfl
/-- .. where nothing is let out -/
def Kx.calmW (C : Kx) : Kx := ⟨C.X, fun _ _ _ _ => False, takes0, C.G, C.px⟩
theorem post_up {α β : Type} {σ : L2.St} {F : Hp} {R : List Addr} {rel : Hp → List Addr → β → α → Prop} {Q : β → Hp → Prop} {r : Rs α} (h : Post C.calmW σ F R rel Q r) : Post C σ F R rel Q r := by
  cases r with
  | ok a S => exact h
  | exc x S => exact fun c d F' R' H' h0 h1 h2 h3 => (h c d F' R' H' h0 h1 h2 h3 : False).elim
  | no => exact h
theorem post_only {σ : L2.St} {F : Hp} {R : List Addr} {sl : Slots} {S : Store} {Q : VK} {m : M} (h : Post C σ F R (RelD C.K) Q (onlyOk m sl S)) : Post C.calmW σ F R (RelD C.K) Q (m sl S) := by
  unfold onlyOk at h
  cases hm : m sl S with
  | ok a S => rw [hm] at h; exact h
  | exc x S => rw [hm] at h; exact h.elim
  | no => rw [hm] at h; exact h
theorem ej_makeK (hM : L2.Mk C.X.K (He.ga C.X.K x) f) (hm : C.X.mg x = some (.ref (He.ga C.X.K x))) (hF : C.formK k f fn (n + 1) ks dfl) (hr : Room (k + 1) C.X.A) (h2 : Aj C ma (e :: es)) (h3 : Kj C mk kws) (hg : Gl C.X x := by rfl)
    (hall : ∀ pos : Pos, (backToKw pos (keywordEach kws C.X.env)).all (·.1.isSome) = true := by intro _; rfl) (hks : ∀ pos : Pos, (backToKw pos (keywordEach kws C.X.env)).filterMap (·.1) = ks := by intro _; rfl) (hdb : (x == ("__debug__" : Str)) = false := by decide)
    (he : Se C e es := by exact se_of rfl) (hpl : ∀ pos : Pos, ((backTo pos (starEach (e :: es) C.X.env)).any (·.1) || (backToKw pos (keywordEach kws C.X.env)).any (·.1.isNone)) = false := by intro _; rfl) :
    Ej C (onlyOk (eMake x (n + ks.length) dfl fn (fun sl S => (ma sl S).bind fun ds S1 => if ds.length = n then (mk sl S1).bind fun es S2 => if es.length = ks.length then .ok (ds ++ es) S2 else .no else .no))) (.Call (.Name x p) (e :: es) kws pos) := .mk fun sl S σ F R H hs hr' Q post => by
  obtain ⟨fd, ps, g, dvs, g1, g2, g4⟩ := hF
  refine ED.of (pe_makeK (n := n) (E := fun _ _ _ => False) hM g1 hr hg hm g2 passesNo pa_d pk_d (hall pos) (hks pos) hdb he (hpl pos)) ?_
  have := make_read (C := C.calmW) (fn := fn) (n := n + ks.length) (cn := x) (dfl := dfl) (sp := spF C.K (n + 1 + ks.length + dfl.length) fn) (t := fun σ H Q' => AD C.X (e :: es) σ H fun vs H1 => KD C.X kws σ H1 fun zs H2 => vs.length = n ∧ zs.length = ks.length ∧ Q' (vs ++ zs) H2)
    (ma := fun sl S => (ma sl S).bind fun ds S1 => if ds.length = n then (mk sl S1).bind fun es S2 => if es.length = ks.length then .ok (ds ++ es) S2 else .no else .no) rfl (by congr 1; omega) g4 (fun sl S σ F R H hs hr Q post => ?_) hs hr' (post_only post)
  · exact this
  · refine h2 sl S σ F R H hs hr _ (Post.bind (post_up post) fun ds S1 vs F1 R1 H1 _ rd rep1 s1 r1 post1 => ?_)
    by_cases hl : ds.length = n
    · rw [if_pos hl] at post1
      refine h3.run sl S1 σ F1 R1 H1 (hs.mono s1 r1) rep1 _ (Post.bind post1 fun es S2 zs F2 R2 H2 _ re rep2 s2 r2 post2 => ?_)
      by_cases hl2 : es.length = ks.length
      · rw [if_pos hl2] at post2
        exact ⟨by rw [rd.length, hl], by rw [re.length, hl2], post2.okv (RelAll.append (rd.mono s2 r2) re) rep2⟩
      · rw [if_neg hl2] at post2; exact post2.elim
    · rw [if_neg hl] at post1; exact post1.elim
end
/-! ### defs with keyword-only parameters -/
abbrev BindsK (x qual : Str) (ps : List Str) (st : Stmt) (n : Nat) (ks mn : List Str) : Prop := ∀ (D : Addr) (doc pm : Value) (an : Option Addr) (cdv ct : Value) (us mv ws : List Value), us.length = n → mv.length = mn.length → ws.length = ks.length →
  KwChain D (mn.zip mv) (bindArgs (PySem.W.fnOf x qual (defArgs st) (defBody st) (defScope st) .none (.ref D) doc pm an cdv ct) ⟨us, ks.zip ws⟩) (ps.zip (us ++ ws ++ mv))
def OkK (P : Program) (w : World) (K : PySem.W.Frag) (mg : Str → Option Value) (base : Heap) (k : Nat) (x qual : Str) (f : Addr) (st : Stmt) (kws : List (Str × V)) (ps : List Str) (fn : Fn) : Prop :=
  ∃ fd, FunD K x qual (defArgs st) (defBody st) (defScope st) [] kws f fd ∧ FnOk P w K mg base (L2.CX P w) k f fd ps (spF ⟨K, P, w⟩ ps.length fn)
section
variable {P : Program} {w : World} {K : PySem.W.Frag} {mg : Str → Option Value} {base : Heap} {k : Nat} {x qual : Str} {N ps : List Str} {st : Stmt} {fn : Fn} {b : MS} {f : Addr} {kws : List (Str × V)}
theorem okK_fn (D : ∃ fd, FunD K x qual (defArgs st) (defBody st) (defScope st) [] kws f fd) (S : FnScope N ps (defScope st))
    (body : ∀ (cdv : Value) (A : Around) (outer : List Env) (s : Shared) (H : Hp) (E : XK) (G : Hp), Room k (A.deeper (envOfC qual (defScope st) s.heap.objs.size f cdv)) → Sj (cxZ P w K mg base N qual (defScope st) f cdv A outer s H E G) b (defBody st)) : OkK P w K mg base (k + 1) x qual f st kws ps (runB N.length b) := by
  obtain ⟨fd, Fu⟩ := D
  refine ⟨fd, Fu, Fu.ok S (fun vs H Q E h => h.1) (fun cdv A outer s H vs Q E hr h => ?_)⟩
  obtain ⟨hl, G, F, R, S0, ds, rep, rx, post⟩ := h
  exact ⟨_, pss_d, body cdv A outer s H E G hr _ S0 _ F R H (ent_rel rx) rep _ (run_post rfl rfl rfl post)⟩
theorem OkK.imp {fn' : Fn} (h : OkK P w K mg base k x qual f st kws ps fn) (hf : ∀ G F R S ds H (Q : VK) (E : XK), Rep ⟨K, P, w⟩ G F R S H → PostF ⟨K, P, w⟩ G F R Q E (fn' ds S) → PostF ⟨K, P, w⟩ G F R Q E (fn ds S)) : OkK P w K mg base k x qual f st kws ps fn' := by
  obtain ⟨fd, h0, h1⟩ := h
  exact ⟨fd, h0, h1.imp fun vs H Q E ⟨hl, G, F, R, S, ds, rep, rx, post⟩ => ⟨hl, G, F, R, S, ds, rep, rx, hf G F R S ds H Q E rep post⟩⟩
theorem okK_fz {n : Nat} (h : OkK P w K mg base k x qual f st kws ps (runB n b)) : OkK P w K mg base k x qual f st kws ps (runZ n b) := h.imp fun G F R S ds H Q E rep post => froz_post rep post
theorem OkK.keep (h : OkK P w K mg base k x qual f st kws ps fn) : PySem.W.keepIn K (.ref f) = true := let ⟨_, h0, _⟩ := h; h0.kp
theorem OkK.formK (h : OkK P w K mg base k x qual f st kws ps fn) (n : Nat) (ks : List Str) (ms : List (Str × V)) {dfl : List Z.P} (hk : kws ≠ []) (hms : ∀ q ∈ ms, q ∈ kws) (hn : n + ks.length + dfl.length = ps.length) (hb : BindsK x qual ps st n ks (ms.map (·.1))) (hp : ∀ F, RpAll ⟨K, P, w⟩ F (ms.map (·.2)) dfl) : FormK P w K mg base k f fn n ks dfl := by
  obtain ⟨fd, h0, h1⟩ := h
  obtain ⟨mv, hB⟩ := h0.kbinds0 n ks ms (fun vs mz zs => vs ++ zs ++ mz) hk hms (fun r1 r2 r3 => (r1.append r3).append r2) (fun D doc pm an cdv ct us mv ws l1 l2 l3 => hb D doc pm an cdv ct us mv ws l1 (by rw [l2, List.length_map]) l3)
  exact ⟨fd, ps, _, _, by rw [hn]; exact h1, hB, hp⟩
end
end Z

namespace Z
open PySem PySem.Spec PyProof.Rows L2
/-! ### {k: v for ..}, keys ints or texts; the dict stands still from then on -/
def dcL (eff : Eff) (t : MT) (mk mv : M) (own : List Nat) (sl : Slots) : List P → List P → List P → Store → Rs (List P × List P)
  | [], ks, ps, S => .ok (ks, ps) S
  | q :: qs, ks, ps, S => match eff q (wipeS sl own) with
    | none => .no
    | some sl1 => match t sl1 S with
      | .ok true S1 => match mk sl1 S1 with
        | .ok (.p k) S2 => match mv sl1 S2 with
          | .ok (.p v) S3 => if (keyOf k).isSome = true ∧ ks.length < sizeLine then dcL eff t mk mv own sl qs (putKs ks k) (putV ks ps k v) S3 else .no
          | _ => .no
        | _ => .no
      | .ok false S1 => dcL eff t mk mv own sl qs ks ps S1
      | _ => .no
def eDc (ms : MI) (eff : Eff) (t : MT) (mk mv : M) (own : List Nat) : M := fun sl S => (ms sl S).bind fun its S1 => (dcL eff t mk mv own sl its [] [] S1).bind fun q S2 => .ok (.p (.dic false q.1 q.2)) S2
theorem putV_rp {K : Fr} {F : Hp} {key : Key} {v : V} {d : P} {kvs : List (Key × V)} {ps : List P} (hv : Rp K F v d) (h : RpAll K F (kvs.map (·.2)) ps) : RpAll K F ((putK kvs key v).map (·.2)) (putV (kvs.map fun q => keyP q.1) ps (keyP key) d) := by
  unfold putK putV
  by_cases hc : (kvs.any fun q => decide (q.1 = key)) = true
  · rw [if_pos hc, if_pos (any_keyK.mp hc)]
    clear hc
    induction kvs generalizing ps with
    | nil => cases h; exact .nil
    | cons q kvs ih =>
      cases h with
      | @cons _ _ d' ds h1 h2 =>
        refine .cons ?_ (ih h2)
        dsimp only
        by_cases e : q.1 = key
        · rw [if_pos e, if_pos (by rw [e])]; exact hv
        · rw [if_neg e, if_neg (fun z => e (keyP_inj z))]; exact h1
  · rw [if_neg hc, if_neg (fun z => hc (any_keyK.mpr z)), List.map_append]
    exact h.append (.cons hv .nil)
section
variable {C : Kx} {a b c e tg iter kx vx : Expr} {pos : Pos} {mk mv : M} {t : MT} {ms : MI} {g : TG} {eff : Eff} {js vs : List Nat} {wi : TI} {scope : Scope} {own : List (Str × Nat)}
theorem dc_read {tt : TT} {tk tv : TE} {σ : L2.St} {F H : Hp} {R : List Addr} {sl : Slots} {S : Store} {Q : VK} (hs : SlR C.K C.px F R σ sl) (hr : Rep C.K C.G F R S H) (hsrc : SrcOk C wi ms) (ho : GOk C.K g eff js) (hj : ∀ j ∈ js, j ∈ vs) (ht : TurnOk C tt tk t mk) (hv : TurnOk C tt tv t mv)
    (post : Post C σ F R (RelD C.K) Q (eDc ms eff t mk mv vs sl S)) : tDc wi g tt tk tv vs σ H Q := by
  refine hsrc sl S σ F R H hs hr _ (Post.bind post fun its S1 J F1 R1 H1 _ ok rep1 s1 r1 post1 => ?_)
  intro D hD
  have hs1 := hs.mono s1 r1
  have nG := rep1.gnone hD
  let Pv : Nat → Hp → Prop := fun i H => ∃ (F2 : Hp) (R2 : List Addr) (S2 : Store) (kvs : List (Key × V)) (ps : List P), Same F1 F2 ∧ R1 <+: R2 ∧ Rep C.K (upd C.G D (.dK kvs)) F2 R2 S2 H ∧ RpAll C.K F2 (kvs.map (·.2)) ps ∧ Post C σ F2 R2 (RelD C.K) Q ((dcL eff t mk mv vs sl (its.drop i) (kvs.map fun q => keyP q.1) ps S2).bind fun q S2 => .ok (.p (.dic false q.1 q.2)) S2)
  have start : Pv 0 (upd H1 D (.dK [])) := ⟨F1, R1, S1, [], [], Same.refl _, pre_refl, rep1.guard hD, .nil, post1⟩
  refine ⟨fun i m H => m = its.length - i ∧ i ≤ its.length ∧ Pv i H, ⟨its.length, rfl, Nat.zero_le _, start⟩, ?_⟩
  rintro i m H ⟨rfl, hi, F2, R2, S2, kvs, ps, s2, r2, rep2, hr2, post2⟩
  by_cases hlt : i < its.length
  · have hit : its[i]? = some its[i] := List.getElem?_eq_getElem hlt
    have hd : its.drop i = its[i] :: its.drop (i + 1) := List.drop_eq_getElem_cons hlt
    rw [hd] at post2
    obtain ⟨g1, g2⟩ := ok.go i _ F2 H hit s2 rep2.sub
    refine .inr ⟨g1, Pv (i + 1), fun H' p' => ⟨its.length - (i + 1), by omega, rfl, hlt, p'⟩, fun v H' hy => ?_⟩
    obtain ⟨F3, gr3, rv⟩ := g2 v H' hy
    have rep3 := rep2.grow gr3
    simp only [dcL] at post2
    cases he : eff its[i] (wipeS sl vs) with
    | none => simp only [he] at post2; exact post2.elim
    | some sl3 =>
      simp only [he] at post2
      refine ho _ _ sl3 _ F3 R2 H' v _ he rv ((hs1.mono (s2.trans gr3.sF) r2).wipe vs) gr3.sub fun σ3 hs3 off => ?_
      refine ⟨by rw [off.wipe hj, wipe_wipe], ?_⟩
      have e1 : Same F1 F3 := s2.trans gr3.sF
      cases htt : t sl3 S2 with
      | exc x S4 => simp only [htt] at post2; exact post2.elim
      | no => simp only [htt] at post2; exact post2.elim
      | ok b S4 =>
        refine ht.t _ sl3 S2 σ3 F3 R2 H' hs3 rep3 b S4 htt _ fun F4 R4 H4 rep4 s4 r4 => ?_
        have post2 := Post.mono post2 (gr3.sF.trans s4) r4
        cases b with
        | false =>
          simp only [htt] at post2
          show Pv (i + 1) H4
          exact ⟨F4, R4, S4, kvs, ps, e1.trans s4, pre_trans r2 r4, rep4, RpAll.mono (gr3.sF.trans s4) _ _ hr2, post2⟩
        | true =>
          simp only [htt] at post2
          show tk σ3 H4 _
          cases hmk : mk sl3 S4 with
          | exc x S5 => simp only [hmk] at post2; exact post2.elim
          | no => simp only [hmk] at post2; exact post2.elim
          | ok d S5 =>
            cases d with
            | ref n => simp only [hmk] at post2; exact post2.elim
            | p k =>
              simp only [hmk] at post2
              refine ht.e _ sl3 S4 σ3 F4 R4 H4 (hs3.mono s4 r4) rep4 _ S5 hmk _ fun y F5 R5 H5 ry rep5 s5 r5 => ?_
              have post2 := Post.mono post2 s5 r5
              cases hmv : mv sl3 S5 with
              | exc x S6 => simp only [hmv] at post2; exact post2.elim
              | no => simp only [hmv] at post2; exact post2.elim
              | ok d S6 =>
                cases d with
                | ref n => simp only [hmv] at post2; exact post2.elim
                | p w =>
                  simp only [hmv] at post2
                  refine hv.e _ sl3 S5 σ3 F5 R5 H5 ((hs3.mono s4 r4).mono s5 r5) rep5 _ S6 hmv _ fun z F6 R6 H6 rz rep6 s6 r6 => ?_
                  have post2 := Post.mono post2 s6 r6
                  have hr6 := RpAll.mono (((gr3.sF.trans s4).trans s5).trans s6) _ _ hr2
                  by_cases hl : (keyOf k).isSome = true ∧ (kvs.map fun q => keyP q.1).length < sizeLine
                  · rw [if_pos hl] at post2
                    obtain ⟨hk, hl⟩ := hl
                    obtain ⟨key, hkk⟩ := Option.isSome_iff_exists.mp hk
                    have ek := keyOf_eq hkk
                    subst ek
                    have hyk : y = kV key := by
                      have : Rp C.K F5 y (keyP key) := ry
                      cases key with
                      | inl i => cases this; rfl
                      | inr x => cases this; rfl
                    have hD6 : H6 D = some (.dK kvs) := by
                      obtain ⟨pc, q⟩ := rep6
                      exact (q.grd D _ upd_same).1
                    rw [keys_len] at hl
                    refine ⟨kvs, key, hyk, hD6, hl, ?_⟩
                    show Pv (i + 1) _
                    refine ⟨F6, R6, S6, putK kvs key z, _, ((e1.trans s4).trans s5).trans s6, pre_trans (pre_trans (pre_trans r2 r4) r5) r6, rep6.regrow, putV_rp rz hr6, ?_⟩
                    rw [putK_keys]
                    exact post2
                  · rw [if_neg hl] at post2; exact post2.elim
  · have e : i = its.length := by omega
    subst e
    rw [List.drop_length] at post2
    refine .inl ⟨ok.stop F2 H s2 rep2.sub, ?_⟩
    obtain ⟨sK, repK⟩ := rep2.known nG
    exact post2 (.ref D) _ R2 H (show RelD C.K _ R2 (.ref D) (.p (.dic false (kvs.map fun q => keyP q.1) ps)) from .dicK upd_same rfl (RpAll.mono sK _ _ hr2)) repK sK pre_refl
theorem ej_dc0 (hc : C.X.calm = true) (hN : C.X.N.Nodup) (hi : PI C.X tg iter wi) (hsrc : SrcOk C wi ms) (ok : BlkOk C.X.N C.X.env.scope scope own) (hg : TgB C scope tg g) (ho : GOk C.K g eff js) (hj : ∀ j ∈ js, j ∈ own.map (·.2)) (hk : EjB C scope mk kx) (hv : EjB C scope mv vx)
    (hf : ∀ x, foldedSetIterable iter C.X.env x = pure x := by intro _; rfl) : Ej C (eDc ms eff tYes mk mv (own.map (·.2))) (.DictComp kx vx [⟨tg, iter, [], 0⟩] scope pos) := .mk fun sl S σ F R H hs hr Q post =>
  ED.of (pe_dc hc hN hi ok hg (fun _ _ _ _ _ => pts_nil) (fun s H Cc cl fp => pe_b s H Cc cl fp) (fun s H Cc cl fp => pe_b s H Cc cl fp) hf) (dc_read hs hr hsrc ho hj (tt_yes (turn_e hk)) (tt_yes (turn_e hv)) post)
end
/-! ### len of a dict with int or text keys -/
def lenD : List P → Option P
  | [.dic false ks ps] => if ks.length = ps.length then some (.int (ks.length : Int)) else none
  | _ => none
section
variable {K : Fr} {C : Kx} {e : Expr} {es : List Expr} {p pos : Pos} {ma : MA}
theorem cv_lenD : CallV K (fun xs H Q => ∃ a kvs, xs = [V.ref a] ∧ H a = some (.dK kvs) ∧ Q (.int kvs.length) H) lenD := fun ps z vs F H Q e hx s k => by
  unfold lenD at e
  split at e
  · obtain ⟨v, rfl, h⟩ := vw1 hx
    rename_i ks qs
    obtain ⟨hl, rfl⟩ := if_some e
    have := h.rd s
    cases this with
    | @dicK a kvs _ _ h1 h2 h3 =>
      subst h2
      refine ⟨a, kvs, rfl, h1, k _ F H ?_ (Grow.refl s)⟩
      rw [List.length_map]
      exact .int _
  · cases e
theorem ej_lenD (hm : C.X.mg "len" = none) (h : Aj C ma (e :: es)) (hg : Gl C.X "len" := by rfl) (he : Se C e es := by exact se_of rfl) (hpl : Pl C es pos := by exact pl_of rfl) : Ej C (eF lenD ma) (.Call (.Name "len" p) (e :: es) [] pos) := ej_callB call_lenD cv_lenD hm boot_len h hg (he := he) (hpl := hpl)
end
end Z

namespace Z
open PySem PySem.Spec PyProof.Rows L2
def maK2 (n m : Nat) (ma mk : MA) : MA := fun sl S => (ma sl S).bind fun ds S1 => if ds.length = n then (mk sl S1).bind fun es S2 => if es.length = m then .ok (ds ++ es) S2 else .no else .no
section
variable {C : Kx} {e : Expr} {es : List Expr} {kws : List Keyword} {pos p kpos : Pos} {x : Str} {ma mk : MA} {fn : Fn} {k : Nat} {dfl : List P} {f : Addr}
theorem ej_mkK {n m nm : Nat} {ks : List Str} (hM : L2.Mk C.X.K (He.ga C.X.K x) f) (hm : C.X.mg x = some (.ref (He.ga C.X.K x))) (hF : C.formK k f fn (n + 1) ks dfl) (hr : Room (k + 1) C.X.A) (h2 : Aj C ma (e :: es)) (h3 : Kj C mk kws) (hl : ks.length = m := by rfl) (hnm : nm = n + m := by rfl) (hg : Gl C.X x := by rfl)
    (hall : ∀ pos : Pos, (backToKw pos (keywordEach kws C.X.env)).all (·.1.isSome) = true := by intro _; rfl) (hks : ∀ pos : Pos, (backToKw pos (keywordEach kws C.X.env)).filterMap (·.1) = ks := by intro _; rfl) (hdb : (x == ("__debug__" : Str)) = false := by decide)
    (he : Se C e es := by exact se_of rfl) (hpl : ∀ pos : Pos, ((backTo pos (starEach (e :: es) C.X.env)).any (·.1) || (backToKw pos (keywordEach kws C.X.env)).any (·.1.isNone)) = false := by intro _; rfl) :
    Ej C (onlyOk (eMake x nm dfl fn (maK2 n m ma mk))) (.Call (.Name x p) (e :: es) kws pos) := by
  subst hl hnm
  exact ej_makeK hM hm hF hr h2 h3 hg hall hks hdb he hpl
end
/-- the object of a keyword-only parameter's default -/
def kwAt (f : Str × Option Str) (a : Str) (K : PySem.W.Frag) : Addr := match K.lookup (He.fAd K f) with
  | some ⟨_, _, .func fd, _⟩ => (match fd.kwdefaults with
    | .ref D => (match PySem.W.nsIn K D a with
      | some (some (.ref x)) => x
      | _ => 0)
    | _ => 0)
  | _ => 0
end Z

namespace Z
open PySem PySem.Spec PyProof.Rows L2
/-! ### a, b = a list -/
def effL (n : Nat) (es : Effs) : Eff := fun q sl => match q with
  | .lst ps => if ps.length = n then es ps sl else none
  | _ => none
section
variable {K : Fr}
theorem go_lst {gs : TGs} {es : Effs} {js : List Nat} {n : Nat} (h : GsOk K gs es js) : GOk K (gLst K.K n gs) (effL n es) js := fun q sl sl' σ F R H v Q e hv hs s k => by
  cases q with
  | lst ps =>
    have e : (if ps.length = n then es ps sl else none) = some sl' := e
    split at e
    · rename_i hn
      cases hv with
      | @lst a vs _ h1 h2 => exact ⟨a, vs, rfl, .inl (.inl (s _ _ h1)), by rw [h2.length]; exact hn, h ps sl sl' σ F R H vs Q e h2 hs s k⟩
    · cases e
  | _ => cases e
end
end Z

namespace Z
open PySem PySem.Spec PyProof.Rows L2
/-! ### is True, is False: the left side anything -/
def isBlB (b : Bool) : P → Bool
  | .bl c => c == b
  | _ => false
def opIsX (p : P) : P → Option P
  | .bl b => some (.bl (isBlB b p))
  | _ => none
def opNotX (p : P) : P → Option P
  | .bl b => some (.bl (!isBlB b p))
  | _ => none
def rIsX : R2 := fun x y H Q => ∃ b : Bool, y = .bl b ∧ Q (.bl (decide (x = .bl b))) H
def rNotX : R2 := fun x y H Q => ∃ b : Bool, y = .bl b ∧ Q (.bl (!decide (x = .bl b))) H
theorem isX_plain {x : V} {v : Value} {b : Bool} (h : RelV x v) : plainIs v (.bool b) = true ∧ (v == Value.bool b) = decide (x = .bl b) := by
  cases x <;> first
    | (cases h; rename_i c; refine ⟨rfl, ?_⟩; cases c <;> cases b <;> rfl)
    | (cases h; refine ⟨rfl, ?_⟩; cases b <;> rfl)
    | (obtain ⟨t, rfl⟩ := h; refine ⟨rfl, ?_⟩; cases b <;> rfl)
theorem op_isX {X : Cx} : OpR X (compareOp .Is) rIsX := by
  intro pins s σ H x y v u Q I rx ry h
  obtain ⟨b, rfl, q⟩ := h
  cases (show u = Value.bool b from ry)
  obtain ⟨h1, h2⟩ := isX_plain (b := b) rx
  exact wpAny_is_plain h1 ⟨.bl (decide (x = .bl b)), H, I, by rw [h2]; rfl, q⟩
theorem op_notX {X : Cx} : OpR X (compareOp .IsNot) rNotX := by
  intro pins s σ H x y v u Q I rx ry h
  obtain ⟨b, rfl, q⟩ := h
  cases (show u = Value.bool b from ry)
  obtain ⟨h1, h2⟩ := isX_plain (b := b) rx
  exact wpAny_isNot_plain h1 ⟨.bl (!decide (x = .bl b)), H, I, by rw [h2]; rfl, q⟩
section
variable {K : Fr} {C : Kx} {a b : Expr} {pos : Pos} {m1 m2 : M}
theorem isX_vw {F H : Hp} {v : V} {p : P} {b : Bool} (h : Vw K F H v p) : decide (v = .bl b) = isBlB b p := by
  cases h with
  | p h => cases h <;> first | rfl | (rename_i c; cases c <;> cases b <;> rfl)
  | lst => rfl
  | dicK => rfl
  | dicN => rfl
  | ins => rfl
theorem bv_isX : BinV K rIsX opIsX := fun p q z x y F H Q e hx hy s k => by
  unfold opIsX at e
  split at e
  · rename_i b
    cases e
    cases hy.bl
    exact ⟨b, rfl, k _ F H (by rw [isX_vw hx]; exact .bl _) (Grow.refl s)⟩
  · cases e
theorem bv_notX : BinV K rNotX opNotX := fun p q z x y F H Q e hx hy s k => by
  unfold opNotX at e
  split at e
  · rename_i b
    cases e
    cases hy.bl
    exact ⟨b, rfl, k _ F H (by rw [isX_vw hx]; exact .bl _) (Grow.refl s)⟩
  · cases e
theorem ej_isX (h1 : Ej C m1 a) (h2 : Ej C m2 b) (hm : Mk .Is b := by first | exact nomark _ | rfl) : Ej C (eB opIsX m1 m2) (.Compare a [.Is] [b] pos) := ej_cmp op_isX bv_isX h1 h2 hm
theorem ej_notX (h1 : Ej C m1 a) (h2 : Ej C m2 b) (hm : Mk .IsNot b := by first | exact nomark _ | rfl) : Ej C (eB opNotX m1 m2) (.Compare a [.IsNot] [b] pos) := ej_cmp op_notX bv_notX h1 h2 hm
theorem tj_isX (h1 : Ej C m1 a) (h2 : Ej C m2 b) (hm : Mk .Is b := by first | exact nomark _ | rfl) : Tj C (tB opIsX m1 m2) (.Compare a [.Is] [b] pos) := tj_cmp op_isX bv_isX h1 h2 hm
theorem tj_notX (h1 : Ej C m1 a) (h2 : Ej C m2 b) (hm : Mk .IsNot b := by first | exact nomark _ | rfl) : Tj C (tB opNotX m1 m2) (.Compare a [.IsNot] [b] pos) := tj_cmp op_notX bv_notX h1 h2 hm
end
section
variable {C : Kx} {a b c e tg iter tg1 iter1 elt : Expr} {pos pos' spos : Pos} {x : Str} {me : M} {t t1 : MT} {ms ms1 : MI} {g g1 : TG} {eff eff1 : Eff} {js js1 vs vs1 : List Nat} {wi wi1 : TI} {scope : Scope} {own : List (Str × Nat)}
theorem sj_setLc20 (i : Nat) (hc : C.X.calm = true) (hN : C.X.N.Nodup) (hi : PI C.X tg iter wi) (hsrc : SrcOk C wi ms) (ok : BlkOk C.X.N C.X.env.scope scope own) (hg : TgB C scope tg g) (ho : GOk C.K g eff js) (hj : ∀ j ∈ js, j ∈ own.map (·.2)) (hi1 : SrcB C scope tg1 iter1 ms1) (hg1 : TgB C scope tg1 g1) (ho1 : GOk C.K g1 eff1 js1) (hj1 : ∀ j ∈ js1, j ∈ vs1) (hv1 : ∀ i ∈ vs1, i ∈ own.map (·.2)) (he : EjB C scope me elt)
    (hf : ∀ x, foldedSetIterable iter C.X.env x = pure x := by intro _; rfl) (hf1 : ∀ env x, foldedSetIterable iter1 env x = pure x := by intro _ _; rfl) (hy : C.X.N[i]? = some x := by rfl) (hyl : C.X.env.scope.names.lookup x = some .local := by rfl)
    (hw : swapsWith (.ListComp elt [⟨tg, iter, [], 0⟩, ⟨tg1, iter1, [], 0⟩] scope pos) (some (.Name x pos')) spos.line C.X.env = pure true := by exact sw_true rfl rfl rfl rfl) :
    Sj1 C (sSet i (eLc2 ms eff tYes ms1 eff1 tYes me (own.map (·.2)) vs1)) (.Assign [.Name x pos'] (.ListComp elt [⟨tg, iter, [], 0⟩, ⟨tg1, iter1, [], 0⟩] scope pos) spos) := .mk fun sl S σ F R H hs hr D post =>
  SD1.of (ps_setLc2 hc hN hy hyl hw hi ok hv1 hg (fun _ _ _ _ _ => pts_nil) (fun s H Cc cl fp => pi_b s H Cc cl fp) hg1 (fun _ _ _ _ _ => pts_nil) (fun s H Cc cl fp => pe_b s H Cc cl fp) hf hf1) (lc2_read hs hr hsrc ho hj ho1 hj1 (tt_yes (turn_e he)) (tt_yes (turn_e he)) (turn_i hi1) (PostS.bind post hs fun d S1 v F1 R1 H1 _ rv rep1 s1 r1 hs1 post1 => post1 _ F1 R1 H1 (hs1.set rv) rep1 (Same.refl _) pre_refl))
theorem sj_setLc21 (i : Nat) (hc : C.X.calm = true) (hN : C.X.N.Nodup) (hi : PI C.X tg iter wi) (hsrc : SrcOk C wi ms) (ok : BlkOk C.X.N C.X.env.scope scope own) (hg : TgB C scope tg g) (ho : GOk C.K g eff js) (hj : ∀ j ∈ js, j ∈ own.map (·.2)) (hi1 : SrcB C scope tg1 iter1 ms1) (hg1 : TgB C scope tg1 g1) (ho1 : GOk C.K g1 eff1 js1) (hj1 : ∀ j ∈ js1, j ∈ vs1) (hv1 : ∀ i ∈ vs1, i ∈ own.map (·.2)) (htt : TjB C scope t1 c) (he : EjB C scope me elt)
    (hf : ∀ x, foldedSetIterable iter C.X.env x = pure x := by intro _; rfl) (hf1 : ∀ env x, foldedSetIterable iter1 env x = pure x := by intro _ _; rfl) (hy : C.X.N[i]? = some x := by rfl) (hyl : C.X.env.scope.names.lookup x = some .local := by rfl)
    (hw : swapsWith (.ListComp elt [⟨tg, iter, [], 0⟩, ⟨tg1, iter1, [c], 0⟩] scope pos) (some (.Name x pos')) spos.line C.X.env = pure true := by exact sw_true rfl rfl rfl rfl) :
    Sj1 C (sSet i (eLc2 ms eff tYes ms1 eff1 t1 me (own.map (·.2)) vs1)) (.Assign [.Name x pos'] (.ListComp elt [⟨tg, iter, [], 0⟩, ⟨tg1, iter1, [c], 0⟩] scope pos) spos) := .mk fun sl S σ F R H hs hr D post =>
  SD1.of (ps_setLc2 hc hN hy hyl hw hi ok hv1 hg (fun _ _ _ _ _ => pts_nil) (fun s H Cc cl fp => pi_b s H Cc cl fp) hg1 (fun s H Cc cl fp => pts_one (pt_b s H Cc cl fp)) (fun s H Cc cl fp => pe_b s H Cc cl fp) hf hf1) (lc2_read hs hr hsrc ho hj ho1 hj1 (tt_yes (turn_e he)) ⟨turn_t htt, turn_e he⟩ (turn_i hi1) (PostS.bind post hs fun d S1 v F1 R1 H1 _ rv rep1 s1 r1 hs1 post1 => post1 _ F1 R1 H1 (hs1.set rv) rep1 (Same.refl _) pre_refl))
end
end Z

namespace Z
open PySem PySem.Spec PyProof.Rows L2
/-! ### the head's reading of the heap, with a mask for what is seen -/
def inB (m a : Nat) : Bool := Nat.beq (Nat.land (Nat.shiftRight m a) 1) 1
def wl : List Addr → Nat → List Addr → Nat × List Addr
  | [], m, acc => (m, acc)
  | a :: r, m, acc => match inB m a with
    | true => wl r m acc
    | false => wl r (Nat.lor m (Nat.shiftLeft 1 a)) (a :: acc)
def bfs (g : Addr → Option Obj) : Nat → List Addr → Nat → List Addr
  | 0, _, _ => []
  | n + 1, f, m => match wl (f.flatMap fun a => match g a with
      | some o => He.refsD o
      | none => []) m [] with
    | (m', new) => new ++ bfs g n new m'
def asY (g : Addr → Option Obj) (n : Nat) : List Addr := mainGlobals :: cStatics :: bfs g n [mainGlobals] (Nat.shiftLeft 1 mainGlobals)
def obsY (n : Nat) (fa : List He.Fa) (ts : List He.Tab) (fn : List He5.DefA) (ex : PySem.W.Frag → Bool) (g : Addr → Option Obj) : AlZ := obZ fa ts fn ex (He.frT g (asY g n))
def hookY (n : Nat) (fa : List He.Fa) (ts : List He.Tab) (fn : List He5.DefA) (ex : PySem.W.Frag → Bool) : PySem.W.Hook where
  α := AlZ
  obs := fun s => obsY n fa ts fn ex s.heap.get?
  val := fun w => valZ ts fn w
  says := fun w h => ∃ K : PySem.W.Frag, K.In h ∧ SaysZ fa ts fn ex w K
  of := fun _ _ e => ⟨_, He.frT_in, e⟩
  keeps := fun _ _ _ ⟨K, hK, c⟩ k => ⟨K, PySem.W.Frag.In.keeps hK k, c⟩
theorem obsY_eq {n : Nat} {fa : List He.Fa} {ts : List He.Tab} {fn : List He5.DefA} {ex : PySem.W.Frag → Bool} {g : Addr → Option Obj} {s : Shared} (h : ∀ a, g a = s.heap.get? a) : obsY n fa ts fn ex g = (hookY n fa ts fn ex).obs s := by
  have e : g = s.heap.get? := funext h
  rw [e] <;> rfl
end Z

namespace Z
open PySem PySem.Spec PyProof.Rows L2
/-! ### list(d) of a dict with nested keys -/
def listDP : List P → Option P
  | [.dic true ks _] => some (.lst ks)
  | _ => none
theorem nkv_keys {kvs : List (NestedKey × Addr × V)} {xs : List (NestedKey × Addr × Value)} (h : NKV kvs xs) : kvs.map (fun q => q.2.1) = xs.map fun x => x.2.1 := by
  induction h with
  | nil => rfl
  | cons h1 t ih => rw [List.map_cons, List.map_cons, ih, h1.2.1]
theorem call_list_dN {X : Cx} (hc : X.calm = true) : CallR X (.type "list") (fun xs H Q => ∃ d kvs, xs = [V.ref d] ∧ H d = some (dN X.prog X.w d kvs) ∧ ∀ p, H p = none → Q (.ref p) (upd H p (.lst (kvs.map fun q => V.ref q.2.1)))) := by
  intro pins s σ H xs us Q I r h
  obtain ⟨d, kvs, rfl, hd, q⟩ := h
  obtain ⟨u, rfl, rx⟩ := r.one
  cases rx
  obtain ⟨z, hs, ks, pr, o, es, ep, ho, hx, hdt, he, hn⟩ := (show ObjOk X.prog X.w H s.heap d (dN X.prog X.w d kvs) from I.hok d _ hd).1
  have l1 : es.size = ks.length := size_of_entries he
  have l2 : kvs.length = ks.length := Paired.length pr
  refine PySem.W.kdl_call (kdl_raw hs hx hdt) (I.ok.hd hc) ho (by omega) fun h' tk acc' c' kp e it => ?_
  have ea : acc'.toList = ks.map fun x => Value.ref x.2.1 := by
    have hl : acc'.toList.length = ks.length := by rw [Array.length_toList, it.1]; exact l1
    apply List.ext_getElem?
    intro j
    rw [List.getElem?_map]
    cases hj : acc'.toList[j]? with
    | none =>
      have h1 := List.getElem?_eq_none_iff.mp hj
      rw [List.getElem?_eq_none (by omega)]
      all_goals rfl
    | some v =>
      obtain ⟨en, hen, hv⟩ := it.2 j v (by rw [← Array.getElem?_toList]; exact hj)
      have qe := entry_at he j
      rw [hen] at qe
      cases hb : ks[j]? with
      | none =>
        rw [hb] at qe
        exact nomatch (show some en = none from qe)
      | some b =>
        rw [hb] at qe
        have e2 : en = entryOfKey (nestedKind X.prog X.w) b := Option.some.inj qe
        rw [hv, e2]
        all_goals rfl
  have eb : acc'.toList = (ks.map fun x => x.2.1).map Value.ref := by rw [ea, List.map_map]; all_goals rfl
  have rv : Vals ((ks.map fun x => x.2.1).map V.ref) acc'.toList := by rw [eb]; exact vals_refs _
  have hz : ((ks.map fun x => x.2.1).map V.ref).length ≤ sizeLine := by rw [List.length_map, List.length_map]; omega
  have hq : (kvs.map fun q => V.ref q.2.1) = (ks.map fun x => x.2.1).map V.ref := by rw [← nkv_keys pr, List.map_map]; rfl
  have q' := q s.heap.objs.size (I.hok.fresh (Nat.le_refl _))
  rw [hq] at q'
  refine ⟨.ref s.heap.objs.size, _, I.laid (t' := tk) (o := .lst ((ks.map fun x => x.2.1).map V.ref)) kp (Nat.le_refl _) ?_, rfl, q'⟩
  exact ⟨hz, acc'.toList, c', rv, by rw [Array.toArray_toList]; exact e⟩
theorem cv_listD {K : Fr} : CallV K (fun xs H Q => ∃ d kvs, xs = [V.ref d] ∧ H d = some (dN K.pg K.w d kvs) ∧ ∀ p, H p = none → Q (.ref p) (upd H p (.lst (kvs.map fun q => V.ref q.2.1)))) listDP := fun ps z vs F H Q e hx s k => by
  unfold listDP at e
  split at e
  · obtain ⟨v, rfl, h⟩ := vw1 hx
    cases e
    cases h with
    | p h =>
      cases h with
      | dicN h1 h2 h3 h4 h5 =>
        exact ⟨_, _, rfl, s _ _ h1, fun l hl => k _ _ _ (.lst upd_same (RpAll.mono (Grow.new s hl).sF _ _ h2)) (Grow.new s hl)⟩
    | dicN h1 h2 h3 h4 h5 =>
      exact ⟨_, _, rfl, h1, fun l hl => k _ _ _ (.lst upd_same (RpAll.mono (Grow.new s hl).sF _ _ h2)) (Grow.new s hl)⟩
  · cases e
section
variable {C : Kx} {e : Expr} {es : List Expr} {pos p : Pos} {ma : MA}
theorem ej_listD (hc : C.X.calm = true) (hm : C.X.mg "list" = none) (h : Aj C ma (e :: es)) (hg : Gl C.X "list" := by rfl) (he : Se C e es := by exact se_of rfl) (hpl : Pl C es pos := by exact pl_of rfl) : Ej C (eF listDP ma) (.Call (.Name "list" p) (e :: es) [] pos) := ej_callTy (call_list_dN hc) cv_listD hm (by decide +kernel) h hg (he := he) (hpl := hpl)
end
end Z

namespace Z
open PySem PySem.Spec PyProof.Rows L2
/-! ### try .. except X as n, except X: what the suite knows of the caught exception -/
theorem XRel.mono {K : Fr} {F F' : Hp} {cls : Value} {d : Option Addr} {x : Xc} (e : Same F F') (h : XRel K F cls d x) : XRel K F' cls d x := by
  obtain ⟨h1, h2⟩ := h
  refine ⟨h1, ?_⟩
  rcases h2 with h2 | ⟨a, fs, q1, q2, q3, q4⟩
  · exact .inl h2
  · exact .inr ⟨a, fs, q1, e _ _ q2, q3, RpAll.mono e _ _ q4⟩
def Pin.su (px : Pin) (K : Fr) (n : Nat) (a : Addr) (cls : Value) (d : Option Addr) (x : Xc) : Pin := ⟨fun F R => px.P F R ∧ R[n]? = some a ∧ XRel K F cls d x, fun F F' R R' e eR h => ⟨px.mono _ _ _ _ e eR h.1, pre_get eR h.2.1, h.2.2.mono e⟩⟩
def Kx.su (C : Kx) (a : Addr) (oe : Obj) (pn : List (Addr × Obj)) (n : Nat) (cls : Value) (d : Option Addr) (x : Xc) : Kx := ⟨C.X.suite a ((a, oe) :: pn), fun _ _ _ _ => False, takes0, C.G, C.px.su C.K n a cls d x⟩
def Kx.tr (C : Kx) (W : WX) (pn : List (Addr × Obj)) (xe : Value → Shared → Prop) (tk : Takes (C.X.tr pn xe) W) : Kx := ⟨C.X.tr pn xe, W, tk, C.G, C.px⟩
theorem SlR.unsu {K K' : Fr} {px : Pin} {n : Nat} {a : Addr} {cls : Value} {d : Option Addr} {x : Xc} {F : Hp} {R : List Addr} {σ : L2.St} {sl : Slots} (h : SlR K (px.su K' n a cls d x) F R σ sl) : SlR K px F R σ sl := ⟨h.len, h.get, h.pin.1⟩
abbrev ExT := List (Str × Bool)
/-- which of the classes the clause's class takes -/
def ExOk (K : PySem.W.Frag) (c : Value) (tab : ExT) : Prop := ∀ q ∈ tab, PySem.W.exmOne K (.ref (He.ga K q.1)) c = some q.2
def exB (K : PySem.W.Frag) (c : Value) (tab : ExT) : Bool := tab.all fun q => decide (PySem.W.exmOne K (.ref (He.ga K q.1)) c = some q.2)
theorem ex_of {K : PySem.W.Frag} {c : Value} {tab : ExT} (h : exB K c tab = true) : ExOk K c tab := fun q hq => of_decide_eq_true (List.all_eq_true.mp h q hq)
def exT (tab : ExT) (c : Str) : Option Bool := (tab.find? fun q => decide (q.1 = c)).map (·.2)
theorem exT_ok {K : PySem.W.Frag} {c : Value} {tab : ExT} (ok : ExOk K c tab) {z : Str} {b : Bool} (h : exT tab z = some b) : PySem.W.exmOne K (.ref (He.ga K z)) c = some b := by
  unfold exT at h
  cases hf : tab.find? (fun q => decide (q.1 = z)) with
  | none => rw [hf] at h; cases h
  | some q =>
    rw [hf] at h
    cases h
    have h1 := of_decide_eq_true (List.find?_some (p := fun q : Str × Bool => decide (q.1 = z)) hf)
    have h2 := ok q (List.mem_of_find?_eq_some hf)
    rw [h1] at h2
    exact h2
def unS (i : Nat) : Fl → Fl
  | .nx sl S => .nx (sl.set i none) S
  | .rt d S => .rt d S
  | .bk sl S => .bk (sl.set i none) S
  | .ct sl S => .ct (sl.set i none) S
  | _ => .no
def sTryAs (tab : ExT) (i : Nat) (mb : MS) (su : Xc → Nat → MS) : MS := fun sl S => match mb sl S with
  | .exc x sl1 S1 => match exT tab x.c with
    | some true => unS i (su x S1.length (sl1.set i (some (.ref S1.length))) (S1 ++ [Cell.dead]))
    | some false => .exc x sl1 S1
    | none => .no
  | r => r
def noX : Fl → Fl
  | .exc _ _ _ => .no
  | r => r
def sTryOn (tab : ExT) (mb su : MS) : MS := fun sl S => match mb sl S with
  | .exc x sl1 S1 => match exT tab x.c with
    | some true => noX (su sl1 S1)
    | some false => .exc x sl1 S1
    | none => .no
  | r => r
section
variable {C : Kx} {tab : ExT} {i : Nat} {mb : MS} {su : Xc → Nat → MS} {su0 : MS} {body suite : List Stmt} {b₀ : Stmt} {x n : Str} {c : Value} {np pos pos' : Pos}
theorem sj_tryAs (hc : Names C.X x c) (ht : ExOk C.X.K c tab) (hN : C.X.N.Nodup)
    (hb : ∀ W pn xe tk, Sj (C.tr W pn xe tk) mb body)
    (hsu : ∀ x' n' a oe cls d pn, Zc cls d oe → (∃ vs, oe.data = .fields vs) → Sj (C.su a oe pn n' cls d x') (su x' n') (b₀ :: suite))
    (hs0 : C.X.stack = C.X.env :: C.X.outer := by rfl) (hf : C.X.env.frame = some C.X.env.locals := by rfl) (hi : C.X.N[i]? = some n := by rfl) (hln : C.X.env.kindOf n = some .local := by rfl) :
    Sj1 C (sTryAs tab i mb su) (.Try body [.ExceptHandler (some (.Name x np)) (some n) (b₀ :: suite) pos'] [] [] pos) := .mk fun sl S σ F R H hs hr D post => by
  refine SD1.of (ps_try_as (ts := fun a cls d D σ H => ∀ oe pn, Zc cls d oe → (∃ vs, oe.data = .fields vs) → SD (C.X.suite a ((a, oe) :: pn)) (b₀ :: suite) D σ H) (tb := fun W D σ H => ∀ pn xe, Takes (C.X.tr pn xe) W → SD (C.X.tr pn xe) body D σ H) hs0 hf hN hi hln hc C.tk (fun W pn xe tk _ => ⟨fun pins s σ H D I h => h pn xe tk pins s I⟩) (fun a oe cls d pn hz hf => ⟨fun pins s σ H D I h => h oe pn hz hf pins s I⟩)) ?_
  intro pn xe tk
  refine (hb _ pn xe tk) sl S σ F R H hs hr D ?_
  unfold sTryAs at post
  cases hm : mb sl S with
  | exc x1 sl1 S1 =>
    rw [hm] at post
    intro cls d σ' F' R' H' hx hs' hr' e eR
    cases hl : exT tab x1.c with
    | none => simp only [hl] at post; exact post.elim
    | some b =>
      refine ⟨b, by rw [hx.1]; exact exT_ok ht hl, fun hbt a na oe pn hz hfd => ?_, fun hbf => ?_⟩
      · subst hbt
        simp only [hl] at post
        have hlen := hr'.len
        have rep1 : Rep C.K C.G F' (R' ++ [a]) (S1 ++ [Cell.dead]) H' := hr'.push (q := nil) (fun b o z => by cases z) .dead (fun b => rfl)
        refine (hsu x1 S1.length a oe cls d pn hz hfd) (sl1.set i (some (.ref S1.length))) (S1 ++ [Cell.dead]) (σ'.set i (some (.ref a))) F' (R' ++ [a]) H' ?_ rep1 _ ?_
        · have h1 := hs'.mono (Same.refl _) (pre_app (t := [a]))
          have h2 := h1.set (i := i) (v := .ref a) (d := .ref S1.length) ⟨a, by rw [← hlen]; simp, rfl⟩
          exact ⟨h2.len, h2.get, h2.pin, by rw [← hlen]; simp, hx⟩
        · have up : ∀ {F2 : Hp} {R2 : List Addr}, Same F' F2 → R' ++ [a] <+: R2 → Same F F2 ∧ R <+: R2 := fun k3 k4 => ⟨e.trans k3, pre_trans eR (pre_trans pre_app k4)⟩
          cases hq : su x1 S1.length (sl1.set i (some (.ref S1.length))) (S1 ++ [Cell.dead]) with
          | nx sl2 S2 => rw [hq] at post; exact fun σ2 F2 R2 H2 k1 k2 k3 k4 => post _ F2 R2 H2 k1.unsu.setN k2 (up k3 k4).1 (up k3 k4).2
          | rt d2 S2 => rw [hq] at post; exact fun v F2 R2 H2 k1 k2 k3 k4 => post v F2 R2 H2 k1 k2 (up k3 k4).1 (up k3 k4).2
          | bk sl2 S2 => rw [hq] at post; exact fun σ2 F2 R2 H2 k1 k2 k3 k4 => post _ F2 R2 H2 k1.unsu.setN k2 (up k3 k4).1 (up k3 k4).2
          | ct sl2 S2 => rw [hq] at post; exact fun σ2 F2 R2 H2 k1 k2 k3 k4 => post _ F2 R2 H2 k1.unsu.setN k2 (up k3 k4).1 (up k3 k4).2
          | exc x2 sl2 S2 => rw [hq] at post; exact post.elim
          | no => rw [hq] at post; exact post.elim
      · subst hbf
        simp only [hl] at post
        exact post cls d σ' F' R' H' hx hs' hr' e eR
  | nx sl2 S2 => rw [hm] at post; exact post
  | rt d2 S2 => rw [hm] at post; exact post
  | bk sl2 S2 => rw [hm] at post; exact post
  | ct sl2 S2 => rw [hm] at post; exact post
  | no => rw [hm] at post; exact post
def Kx.sn (C : Kx) (a : Addr) (oe : Obj) (pn : List (Addr × Obj)) : Kx := ⟨C.X.suite a ((a, oe) :: pn), fun _ _ _ _ => False, takes0, C.G, C.px⟩
theorem sj_tryOn (hc : Names C.X x c) (ht : ExOk C.X.K c tab)
    (hb : ∀ W pn xe tk, Sj (C.tr W pn xe tk) mb body)
    (hsu : ∀ a oe pn, (∃ vs, oe.data = .fields vs) → Sj (C.sn a oe pn) su0 (b₀ :: suite))
    (hs0 : C.X.stack = C.X.env :: C.X.outer := by rfl) (hf : C.X.env.frame = some C.X.env.locals := by rfl) :
    Sj1 C (sTryOn tab mb su0) (.Try body [.ExceptHandler (some (.Name x np)) none (b₀ :: suite) pos'] [] [] pos) := .mk fun sl S σ F R H hs hr D post => by
  refine SD1.of (ps_try_only (ts := fun a cls d D σ H => ∀ oe pn, Zc cls d oe → (∃ vs, oe.data = .fields vs) → SD (C.X.suite a ((a, oe) :: pn)) (b₀ :: suite) D σ H) (tb := fun W D σ H => ∀ pn xe, Takes (C.X.tr pn xe) W → SD (C.X.tr pn xe) body D σ H) hs0 hf hc C.tk (fun W pn xe tk _ => ⟨fun pins s σ H D I h => h pn xe tk pins s I⟩) (fun a oe cls d pn hz hf => ⟨fun pins s σ H D I h => h oe pn hz hf pins s I⟩)) ?_
  intro pn xe tk
  refine (hb _ pn xe tk) sl S σ F R H hs hr D ?_
  unfold sTryOn at post
  cases hm : mb sl S with
  | exc x1 sl1 S1 =>
    rw [hm] at post
    intro cls d σ' F' R' H' hx hs' hr' e eR
    cases hl : exT tab x1.c with
    | none => simp only [hl] at post; exact post.elim
    | some b =>
      refine ⟨b, by rw [hx.1]; exact exT_ok ht hl, fun hbt a na oe pn hz hfd => ?_, fun hbf => ?_⟩
      · subst hbt
        simp only [hl] at post
        refine (hsu a oe pn hfd) sl1 S1 σ' F' R' H' hs' hr' _ ?_
        cases hq : su0 sl1 S1 with
        | nx sl2 S2 => rw [hq] at post; exact fun σ2 F2 R2 H2 k1 k2 k3 k4 => post _ F2 R2 H2 k1 k2 (e.trans k3) (pre_trans eR k4)
        | rt d2 S2 => rw [hq] at post; exact fun v F2 R2 H2 k1 k2 k3 k4 => post v F2 R2 H2 k1 k2 (e.trans k3) (pre_trans eR k4)
        | bk sl2 S2 => rw [hq] at post; exact fun σ2 F2 R2 H2 k1 k2 k3 k4 => post _ F2 R2 H2 k1 k2 (e.trans k3) (pre_trans eR k4)
        | ct sl2 S2 => rw [hq] at post; exact fun σ2 F2 R2 H2 k1 k2 k3 k4 => post _ F2 R2 H2 k1 k2 (e.trans k3) (pre_trans eR k4)
        | exc x2 sl2 S2 => rw [hq] at post; exact post.elim
        | no => rw [hq] at post; exact post.elim
      · subst hbf
        simp only [hl] at post
        exact post cls d σ' F' R' H' hx hs' hr' e eR
  | nx sl2 S2 => rw [hm] at post; exact post
  | rt d2 S2 => rw [hm] at post; exact post
  | bk sl2 S2 => rw [hm] at post; exact post
  | ct sl2 S2 => rw [hm] at post; exact post
  | no => rw [hm] at post; exact post
end
/-! ### e.f of the caught exception -/
/-- classes whose instances' field f is read as usual -/
def XfOk (K : PySem.W.Frag) (cs : List Str) (f : Str) : Prop := ∀ c ∈ cs, XfC K (He.ga K c) ∧ PySem.W.findIn K (.ref (He.ga K c)) f = some none
def xfOkB (K : PySem.W.Frag) (cs : List Str) (f : Str) : Bool := cs.all fun c => xfB K (He.ga K c) && decide (PySem.W.findIn K (.ref (He.ga K c)) f = some none)
theorem xfOk_of {K : PySem.W.Frag} {cs : List Str} {f : Str} (h : xfOkB K cs f = true) : XfOk K cs f := fun c hc => by
  obtain ⟨h1, h2⟩ := Bool.and_eq_true_iff.mp (List.all_eq_true.mp h c hc)
  exact ⟨xfB_ok h1, of_decide_eq_true h2⟩
def eXf (cs : List Str) (x : Xc) (n : Nat) (f : Str) (m : M) : M := fun sl S => if x.c ∈ cs then (m sl S).bind fun d S1 => match d with
  | .ref k => if k = n then match lookF x.ks (x.ps.map D.p) f with
      | some r => .ok r S1
      | none => .no
    else .no
  | .p _ => .no
  else .no
section
variable {C : Kx} {a : Addr} {oe : Obj} {cls : Value} {d : Option Addr} {pn : List (Addr × Obj)} {n : Nat} {x : Xc} {e : Expr} {es : List Expr} {pos p : Pos} {f : Str} {m : M} {ma : MA} {cs : List Str}
theorem ej_xf (hcs : XfOk C.X.K cs f) (hz : Zc cls d oe) (hfd : ∃ vs, oe.data = .fields vs) (h : Ej (C.su a oe pn n cls d x) m e) (hb : attributeBase e f C.X.env (eval e C.X.env) = eval e C.X.env := by rfl) : Ej (C.su a oe pn n cls d x) (eXf cs x n f m) (.Attribute e f pos) := .mk fun sl S σ F R H hs hr Q post => by
  unfold eXf at post
  by_cases hc : x.c ∈ cs
  · rw [if_pos hc] at post
    obtain ⟨T, hno⟩ := hcs _ hc
    refine ED.of (pe_xf (X := C.X) (a := a) (oe := oe) (cls := cls) (d := d) (pn := pn) T hno hz hfd pe_d hb) (h sl S σ F R H hs hr _ (Post.bind post fun d1 S1 v F1 R1 H1 _ rx rep1 s1 r1 post1 => ?_))
    have hpin := (C.px.su C.K n a cls d x).mono _ _ _ _ s1 r1 hs.pin
    obtain ⟨_, hR, hX⟩ := hpin
    cases d1 with
    | p q => exact post1.elim
    | ref k =>
      simp only at post1
      by_cases hk : k = n
      · rw [if_pos hk] at post1
        subst hk
        obtain ⟨a', e1, rfl⟩ := rx
        rw [hR] at e1
        cases e1
        obtain ⟨hcl, hX | ⟨dd, fs, rfl, hdd, hks, hps⟩⟩ := hX
        · rw [hX.1] at post1
          simp only [lookF] at post1
          exact post1.elim
        · rw [hks] at post1
          have hl := lookF_at (f := f) (R := R1) (RelAll.of_p hps)
          cases hq : lookF (fs.map (·.1)) (x.ps.map D.p) f with
          | none => simp only [hq] at post1; exact post1.elim
          | some r =>
            simp only [hq] at post1 hl
            obtain ⟨v, l1, l2⟩ := hl
            exact ⟨rfl, hcl, dd, fs, v, rfl, rep1.sub _ _ hdd, l1, post1 v F1 R1 H1 l2 rep1 (Same.refl _) pre_refl⟩
      · rw [if_neg hk] at post1; exact post1.elim
  · rw [if_neg hc] at post; exact post.elim
end
end Z

namespace Z
open PySem PySem.Spec PyProof.Rows L2
/-! ### isinstance(e, c), isinstance(e, (c, ..)) of the caught exception -/
def rIsXe (K : PySem.W.Frag) (D a : Addr) (d : Option Addr) : List V → Hp → VK → Prop := fun xs H Q => ∃ (c : V) (b : Bool), xs = [.ref a, c] ∧ (d = none ∨ ∃ dd fs, d = some dd ∧ H dd = some (.xd fs)) ∧
  ((∃ u, ClsV c u ∧ PySem.W.kitOne K (.ref D) u = some b) ∨ (∃ tp cs us, c = .ref tp ∧ SqT K H tp cs ∧ Paired ClsV cs us ∧ PySem.W.kitAny K (.ref D) us = some b)) ∧ Q (.bl b) H
theorem call_isX {X : Cx} {a D : Addr} {d : Option Addr} {oe : Obj} {pn : List (Addr × Obj)} (T : ExcC X.K D) (hz : Zc (.ref D) d oe) (hf : ∃ vs, oe.data = .fields vs) : CallR (X.suite a ((a, oe) :: pn)) (.builtin "isinstance") (rIsXe X.K D a d) := by
  intro pins s σ H xs us Q I r h
  obtain ⟨c, b, rfl, hd, hk, q⟩ := h
  obtain ⟨u1, u2, rfl, r1, r2⟩ := vals2 r
  obtain rfl : u1 = Value.ref a := r1
  obtain ⟨hget, _⟩ := I.pin (a, oe) (List.mem_append.mpr (.inl List.mem_cons_self))
  obtain ⟨vs, hv⟩ := hf
  have J : ∃ od, PySem.W.InstAt s.heap a oe D od := by
    obtain ⟨oc, od, oda, osl⟩ := oe
    obtain ⟨h1, h2⟩ := hz
    dsimp only at h1 h2 hv
    subst h1 h2 hv
    rcases hd with rfl | ⟨dd, fs, rfl, hx⟩
    · exact ⟨none, hget, rfl, rfl, trivial⟩
    · have hx : ObjOk X.prog X.w H s.heap dd (.xd fs) := I.hok dd _ hx
      obtain ⟨mA, hns, _⟩ := hx
      obtain ⟨od, ho, _⟩ := lookIn_ns hns
      exact ⟨some od, hget, rfl, rfl, ho⟩
  obtain ⟨od, J⟩ := J
  have hcl : (PySem.W.clsIn X.K D).isSome = true := by
    obtain ⟨cd, hc, _⟩ := PySem.W.any_some T.hd
    rw [hc]; rfl
  have Z := PySem.W.kitx_exc (x := a) (od := od) (ox := oe) hcl T.hg T.hk T.hs T.ha T.hn T.ht T.hm
  rcases hk with ⟨u, k, e⟩ | ⟨tp, cs, us, rfl, hT, k, e⟩
  · have e2 := k.eq r2
    subst e2
    exact PySem.W.kia_one Z I.kIn J e (fun z => nomatch z) fun tk => ⟨.bl b, H, I.tok tk, rfl, q⟩
  · cases (show u2 = Value.ref tp from r2)
    obtain ⟨its, rv, ⟨o, h1, h2, n, h3⟩, _⟩ := I.tuple hT
    have e3 := ClsV.all k rv
    subst e3
    obtain ⟨oc, od', dt, sl⟩ := o
    simp only at h2 h3
    subst h2 h3
    exact PySem.W.kia_tup Z I.kIn J h1 e (fun z => nomatch z) fun tk => ⟨.bl b, H, I.tok tk, rfl, q⟩
abbrev XisT := List (Str × KTy × Bool)
def kyP : P → Option KTy
  | .glo c => some (.glo c)
  | .ty n => some (.ty n)
  | _ => none
def kyL : List P → Option (List KTy)
  | [] => some []
  | p :: ps => match kyP p, kyL ps with
    | some k, some ks => some (k :: ks)
    | _, _ => none
def kOne (tab : XisT) (z : Str) (k : KTy) : Option Bool := (tab.find? fun q => decide (q.1 = z ∧ q.2.1 = k)).map (·.2.2)
def kAny (tab : XisT) (z : Str) : List KTy → Option Bool
  | [] => some false
  | k :: ks => match kOne tab z k with
    | some true => some true
    | some false => kAny tab z ks
    | none => none
def xisP (tab : XisT) (z : Str) : P → Option Bool
  | .tup ps => match kyL ps with
    | some ks => kAny tab z ks
    | none => none
  | p => match kyP p with
    | some k => kOne tab z k
    | none => none
structure XisOk (K : PySem.W.Frag) (tab : XisT) (cs : List Str) : Prop where
  one : ∀ q ∈ tab, PySem.W.kitOne K (.ref (He.ga K q.1)) (q.2.1.v K) = some q.2.2
  cls : ∀ c ∈ cs, ExcC K (He.ga K c)
def xisB (K : PySem.W.Frag) (tab : XisT) : Bool := tab.all fun q => decide (PySem.W.kitOne K (.ref (He.ga K q.1)) (q.2.1.v K) = some q.2.2)
def excCB (K : PySem.W.Frag) (D : Addr) : Bool := He.eqO (PySem.W.findIn K (.ref D) "__getattribute__") (some (some (.builtin "BaseException.__getattribute__"))) && (decide (PySem.W.findIn K (.ref D) "__getattr__" = some none) && (decide (PySem.W.subIn K (.ref D) (.type "BaseException") = some true) && (PySem.W.hasDictIn K D &&
  (He.eqO (PySem.W.findIn K (.ref D) "__class__") (some (some (.builtin "object.__class__"))) && (He.eqO (PySem.W.specialIn K (.builtin "object.__class__") "__get__") (some (some (.builtin "getset_descriptor.__get__"))) && (decide (PySem.W.takesIn K (.builtin "object.__class__") = some true) && decide (PySem.W.mroIn K D (.type "object") = some true)))))))
theorem excC_of {K : PySem.W.Frag} {D : Addr} (h : excCB K D = true) : ExcC K D := by
  obtain ⟨h1, h⟩ := Bool.and_eq_true_iff.mp h
  obtain ⟨h2, h⟩ := Bool.and_eq_true_iff.mp h
  obtain ⟨h3, h⟩ := Bool.and_eq_true_iff.mp h
  obtain ⟨h4, h⟩ := Bool.and_eq_true_iff.mp h
  obtain ⟨h5, h⟩ := Bool.and_eq_true_iff.mp h
  obtain ⟨h6, h⟩ := Bool.and_eq_true_iff.mp h
  obtain ⟨h7, h8⟩ := Bool.and_eq_true_iff.mp h
  exact ⟨He.eqO_ok h1, of_decide_eq_true h2, of_decide_eq_true h3, h4, He.eqO_ok h5, He.eqO_ok h6, of_decide_eq_true h7, of_decide_eq_true h8⟩
theorem xis_of {K : PySem.W.Frag} {tab : XisT} {cs : List Str} (h : xisB K tab = true) (h2 : cs.all (fun c => excCB K (He.ga K c)) = true) : XisOk K tab cs :=
  ⟨fun q hq => of_decide_eq_true (List.all_eq_true.mp h q hq), fun c hc => excC_of (List.all_eq_true.mp h2 c hc)⟩
section
variable {K : Fr} {F : Hp} {tab : XisT} {cs : List Str} {z : Str}
theorem kOne_ok (ok : XisOk K.K tab cs) {k : KTy} {b : Bool} (h : kOne tab z k = some b) : PySem.W.kitOne K.K (.ref (He.ga K.K z)) (k.v K.K) = some b := by
  unfold kOne at h
  cases hf : tab.find? (fun q => decide (q.1 = z ∧ q.2.1 = k)) with
  | none => rw [hf] at h; cases h
  | some q =>
    rw [hf] at h
    cases h
    have h1 := of_decide_eq_true (List.find?_some (p := fun q : Str × KTy × Bool => decide (q.1 = z ∧ q.2.1 = k)) hf)
    have h2 := ok.one q (List.mem_of_find?_eq_some hf)
    rw [h1.1, h1.2] at h2
    exact h2
theorem kAny_ok (ok : XisOk K.K tab cs) {b : Bool} : ∀ {ks : List KTy}, kAny tab z ks = some b → PySem.W.kitAny K.K (.ref (He.ga K.K z)) (ks.map (·.v K.K)) = some b
  | [], h => h
  | k :: ks, h => by
    unfold kAny at h
    cases h1 : kOne tab z k with
    | none => rw [h1] at h; cases h
    | some b1 =>
      rw [h1] at h
      refine kitAny_cons (kOne_ok ok h1) (fun e => ?_) (fun e => ?_)
      · subst e; exact kAny_ok ok h
      · subst e; cases h; rfl
theorem kyP_rp {v : V} {p : P} {k : KTy} (h : Rp K F v p) (e : kyP p = some k) : ClsV v (k.v K.K) := by
  cases p with
  | glo c => cases e; cases h; exact .own _
  | ty n => cases e; cases h; exact .ty n
  | _ => cases e
theorem kyL_rp : ∀ {vs : List V} {ps : List P} {ks : List KTy}, RpAll K F vs ps → kyL ps = some ks → Paired ClsV vs (ks.map (·.v K.K))
  | _, [], _, h, e => by cases e; cases h; exact .nil
  | _, p :: ps, ks, h, e => by
    cases h with
    | cons h1 h2 =>
      unfold kyL at e
      cases e1 : kyP p with
      | none => rw [e1] at e; cases e
      | some k =>
        cases e2 : kyL ps with
        | none => rw [e1, e2] at e; cases e
        | some ks' =>
          rw [e1, e2] at e
          cases e
          exact .cons (kyP_rp h1 e1) (kyL_rp h2 e2)
end
def twoD : List D → Option (Nat × P)
  | [.ref k, .p q] => some (k, q)
  | _ => none
theorem twoD_at {ds : List D} {k : Nat} {q : P} (h : twoD ds = some (k, q)) : ds = [.ref k, .p q] := by
  unfold twoD at h
  split at h
  · cases h; rfl
  · cases h
def eXis (tab : XisT) (cs : List Str) (x : Xc) (n : Nat) (ma : MA) : M := fun sl S => if x.c ∈ cs then (ma sl S).bind fun ds S1 => match twoD ds with
  | some (k, q) => if k = n then match xisP tab x.c q with
      | some b => .ok (.p (.bl b)) S1
      | none => .no
    else .no
  | none => .no
  else .no
section
variable {C : Kx} {a : Addr} {oe : Obj} {cls : Value} {d : Option Addr} {pn : List (Addr × Obj)} {n : Nat} {x : Xc} {e : Expr} {es : List Expr} {pos p : Pos} {ma : MA} {tab : XisT} {cs : List Str}
theorem ej_xis (ok : XisOk C.X.K tab cs) (hz : Zc cls d oe) (hfd : ∃ vs, oe.data = .fields vs) (hm : C.X.mg "isinstance" = none) (h : Aj (C.su a oe pn n cls d x) ma (e :: es)) (hg : Gl C.X "isinstance" := by rfl) (he : Se C e es := by exact se_of rfl) (hpl : Pl C es pos := by exact pl_of rfl) :
    Ej (C.su a oe pn n cls d x) (eXis tab cs x n ma) (.Call (.Name "isinstance" p) (e :: es) [] pos) := .mk fun sl S σ F R H hs hr Q post => by
  unfold eXis at post
  by_cases hc : x.c ∈ cs
  · rw [if_pos hc] at post
    have hX0 := hs.pin.2.2
    obtain ⟨hcl, _⟩ := hX0
    have T := ok.cls _ hc
    rw [hcl] at hz
    refine ED.of (pe_callB (X := C.X.suite a ((a, oe) :: pn)) (call_isX T hz hfd) hg hm (by decide +kernel) pa_d (by decide) (by decide) he hpl) (h sl S σ F R H hs hr _ (Post.bind post fun ds S1 vs F1 R1 H1 _ rx rep1 s1 r1 post1 => ?_))
    have hpin := (C.px.su C.K n a cls d x).mono _ _ _ _ s1 r1 hs.pin
    obtain ⟨_, hR, hX⟩ := hpin
    cases h2 : twoD ds with
    | none => simp only [h2] at post1; exact post1.elim
    | some kq =>
      obtain ⟨k, q⟩ := kq
      simp only [h2] at post1
      have hds := twoD_at h2
      subst hds
      by_cases hk : k = n
      · rw [if_pos hk] at post1
        subst hk
        cases hb : xisP tab x.c q with
        | none => simp only [hb] at post1; exact post1.elim
        | some b =>
          simp only [hb] at post1
          obtain ⟨v1, v2, rfl, r1', r2'⟩ : ∃ v1 v2, vs = [v1, v2] ∧ RelD C.K F1 R1 v1 (.ref k) ∧ Rp C.K F1 v2 q := by
            cases rx with
            | cons r1' rr =>
              cases rr with
              | cons r2' rr =>
                cases rr
                exact ⟨_, _, rfl, r1', r2'⟩
          obtain ⟨a', e1, rfl⟩ := r1'
          rw [hR] at e1
          cases e1
          refine ⟨v2, b, rfl, ?_, ?_, post1 _ F1 R1 H1 (show RelD C.K F1 R1 (.bl b) (.p (.bl b)) from .bl b) rep1 (Same.refl _) pre_refl⟩
          · obtain ⟨_, hX | ⟨dd, fs, rfl, hdd, _⟩⟩ := hX
            · exact .inl hX.2.2
            · exact .inr ⟨dd, fs, rfl, rep1.sub _ _ hdd⟩
          · have single : ∀ k : KTy, kyP q = some k → kOne tab x.c k = some b → (∃ u, ClsV v2 u ∧ PySem.W.kitOne C.X.K (.ref (He.ga C.X.K x.c)) u = some b) := fun k h1 h2 => ⟨_, kyP_rp r2' h1, kOne_ok (K := C.K) ok h2⟩
            cases q with
            | tup ps =>
              have hb : (match kyL ps with | some ks => kAny tab x.c ks | none => none) = some b := hb
              cases hk : kyL ps with
              | none => rw [hk] at hb; cases hb
              | some ks =>
                rw [hk] at hb
                have hks := kAny_ok (K := C.K) ok hb
                cases r2' with
                | tup h1 h2 => exact .inr ⟨_, _, _, rfl, .inl (.inl (rep1.sub _ _ h1)), kyL_rp h2 hk, hks⟩
                | tupW h1 h2 _ => exact .inr ⟨_, _, _, rfl, same_sqT rep1.sub h1, kyL_rp h2 hk, hks⟩
            | glo z => exact .inl (single _ rfl hb)
            | ty z => exact .inl (single _ rfl hb)
            | _ => cases hb
      · rw [if_neg hk] at post1; exact post1.elim
  · rw [if_neg hc] at post; exact post.elim
end
end Z

namespace PySem
namespace Zx
open PySem.W PySem.Calls PyProof.Rows PySem.HandSPX
section
open Builtin Builtin.ObjectAttr
variable {prog : Program} {w : World} {A : Around} {E : Value → Shared → Prop} {R : Result → Shared → Prop} {hp : Heap} {g : Array GenState} {d : Drawn} {t : Nat} {os : OsState}
theorem osa_newG {K : W.Frag} {name : Str} {tk : Tok} {v : Value} {x C : Addr} {fv : Array Value} {cd : ClassData}
    (X : K.In hp) (hx : hp.get? x = some { cls := .ref C, data := .fields fv }) (hcd : W.clsIn K C = some cd) (hpass : refuseLoop (.ref x) "__setattr__" cd.mro = pure ()) (hob : cd.mro.contains (.type "object") = true) (ne : cd.mro.isEmpty = false) (hh : cd.hasDict = true) (ha : W.findIn K (.ref C) name = some none)
    (hq : ∀ h' tk' dx, (∀ b o, b ≠ x → hp.get? b = some o → h'.get? b = some o) → hp.objs.size ≤ dx → dx ≠ x → h'.get? x = some { cls := .ref C, dict := some dx, data := .fields fv } →
      h'.Ns1 dx (fun y => if y = name then some v else none) → R (.ok (.ret .none)) ⟨h', g, d, tk', os⟩) :
    codeAny (model prog w) A (.call (.builtin "object.__setattr__") ⟨[.ref x, .str name tk, v], []⟩) R ⟨hp, g, d, t, os⟩ := by
  have I : W.InstAt hp x { cls := .ref C, data := .fields fv } C none := ⟨hx, rfl, rfl, trivial⟩
  have SF := F.store_object
  have hxs : x ≠ hp.objs.size := Nat.ne_of_lt (Heap.lt_size hx)
  have sub : W.Looks (model prog w) hp (isInstance (.ref x) (.type "object")) true := I.type.andThen (W.looks_mroIn X (by unfold W.mroIn; rw [hcd, Option.bind_some, if_neg (by rw [ne]; decide), hob]))
  refine codeAny_call_builtin SF.slot.plain SF.entry (@W.check_slot (model prog w) _ _ ⟨hp, g, d, t, os⟩ "object.__setattr__" "object" "__setattr__" (.ref x) [.str name tk, v] [] _ SF.kind SF.split sub (SF.args (.ref x) (.str name tk) v) ?_)
  have hmr : W.Looks (model prog w) hp (mroOf (.ref C)) cd.mro := (W.looks_clsIn X hcd).andThen .now
  have L3 : W.Looks (model prog w) hp (storeTaker? none) none := .now
  have hcls : W.Looks (model prog w) hp (classData C) cd := W.looks_clsIn X hcd
  rw [W.osa_eq, refuse_eq]
  refine wpAny_bind (wpAny_bind (I.type.at (wpAny_bind (hmr.at ?_))))
  rw [hpass]
  refine wpAny_pure (wpAny_bind (I.type.at (wpAny_bind ((W.looks_findIn X ha).at (wpAny_bind (L3.at ?_))))))
  show wpAny _ _ (storeInOwnDict (.ref x) (.ref C) (.str name tk) name v false) _ _ _
  obtain ⟨nm, bs, mro, ns, qn, hd, sn, sb, ab, col, del⟩ := cd
  dsimp only at hh
  subst hh
  unfold storeInOwnDict ownDictForStores
  repeat (first | with_reducible refine PySem.HandSPX.store_in_new ?_ ?_ | with_reducible refine wpAny_loadPart_at hx ?_ | with_reducible refine hcls.at ?_ | wp_step)
  · exact ⟨_, #[], _, (Heap.get?_update_ne _ _ _ _ hxs.symm).trans (Heap.get?_push_at rfl rfl), rfl, fun e he => absurd he (by simp), fun _ => rfl⟩
  · intro h' tk' hn' hs
    have hx₁ : (hp.push { cls := .type "dict", data := .dict #[] }).get? x = some { cls := .ref C, data := .fields fv } := Heap.get?_push_of_some _ hx
    refine hq h' tk' hp.objs.size (fun b o hb ho => ?_) (Nat.le_refl _) hxs.symm ?_ hn'
    · exact (hs.2 b (Nat.ne_of_lt (Heap.lt_size ho))).trans ((Heap.get?_update_ne _ _ _ _ hb).trans (Heap.get?_push_of_some _ ho))
    · exact (hs.2 x hxs).trans (Heap.get?_update_self _ hx₁ rfl)
theorem osa_oldG {K : W.Frag} {name : Str} {tk : Tok} {v : Value} {x C dx : Addr} {fv : Array Value} {cd : ClassData} {m0 : Str → Option Value} {nl : List Str}
    (X : K.In hp) (hx : hp.get? x = some { cls := .ref C, dict := some dx, data := .fields fv }) (hns : hp.Ns1 dx m0) (hw : Within m0 nl) (hz : nl.length ≤ 1000) (hcd : W.clsIn K C = some cd) (hpass : refuseLoop (.ref x) "__setattr__" cd.mro = pure ()) (hob : cd.mro.contains (.type "object") = true) (ne : cd.mro.isEmpty = false) (hh : cd.hasDict = true)
    (ha : W.findIn K (.ref C) name = some none)
    (hq : ∀ h' tk', (∀ b o, b ≠ dx → hp.get? b = some o → h'.get? b = some o) → h'.Ns1 dx (fun y => if y = name then some v else m0 y) → R (.ok (.ret .none)) ⟨h', g, d, tk', os⟩) :
    codeAny (model prog w) A (.call (.builtin "object.__setattr__") ⟨[.ref x, .str name tk, v], []⟩) R ⟨hp, g, d, t, os⟩ := by
  obtain ⟨oD, esD, epD, hoD, hdD, _⟩ := hns.count hw
  have I : W.InstAt hp x { cls := .ref C, dict := some dx, data := .fields fv } C (some oD) := ⟨hx, rfl, rfl, hoD⟩
  have SF := F.store_object
  have sub : W.Looks (model prog w) hp (isInstance (.ref x) (.type "object")) true := I.type.andThen (W.looks_mroIn X (by unfold W.mroIn; rw [hcd, Option.bind_some, if_neg (by rw [ne]; decide), hob]))
  refine codeAny_call_builtin SF.slot.plain SF.entry (@W.check_slot (model prog w) _ _ ⟨hp, g, d, t, os⟩ "object.__setattr__" "object" "__setattr__" (.ref x) [.str name tk, v] [] _ SF.kind SF.split sub (SF.args (.ref x) (.str name tk) v) ?_)
  have hmr : W.Looks (model prog w) hp (mroOf (.ref C)) cd.mro := (W.looks_clsIn X hcd).andThen .now
  have L3 : W.Looks (model prog w) hp (storeTaker? none) none := .now
  have hcls : W.Looks (model prog w) hp (classData C) cd := W.looks_clsIn X hcd
  rw [W.osa_eq, refuse_eq]
  refine wpAny_bind (wpAny_bind (I.type.at (wpAny_bind (hmr.at ?_))))
  rw [hpass]
  refine wpAny_pure (wpAny_bind (I.type.at (wpAny_bind ((W.looks_findIn X ha).at (wpAny_bind (L3.at ?_))))))
  show wpAny _ _ (storeInOwnDict (.ref x) (.ref C) (.str name tk) name v false) _ _ _
  obtain ⟨nm, bs, mro, ns, qn, hd, sn, sb, ab, col, del⟩ := cd
  dsimp only at hh
  subst hh
  unfold storeInOwnDict ownDictForStores
  repeat (first | with_reducible refine PySem.OEX.store_in_old hns hw hz ?_ | with_reducible refine wpAny_loadPart_at hx ?_ | with_reducible refine hcls.at ?_ | wp_step)
  intro h' tk' hn' hs
  exact hq h' tk' (fun b o hb ho => (hs.2 b hb).trans ho) hn'
end
section
variable {prog : Program} {w : World} {A : Around} {E : Value → Shared → Prop} {h : Heap} {g : Array GenState} {d : Drawn} {t : Nat} {os : OsState}
variable {nm q : Str} {C N : Addr} {bs bm bmB : List Value} {hdct : Bool} {sn : List Str} {sub : List Value} {ab : Bool} {col : Option Bool} {dd : Option Addr} {k0 k1 k2 k3 k5 : Option Value} {B newId initId : String}
theorem call_mwG {u e t0 : Addr} {rest : List Value} {Q : Value → Shared → Prop} (FB : ExcBaseFacts B newId initId bmB)
    (hC : h.get? C = some (excClassObj nm q C N bs bm hdct sn sub ab col dd k0 k1 k2 k3 k5 newId)) (he : h.get? e = some (HandSPX.excO C t0)) (hu : h.get? u = some (kxs_mw initId e)) (hrest : rest.length ≤ sizeLine)
    (hq : ∀ h' t1, (∀ b o, b ≠ e → h.get? b = some o → h'.get? b = some o) → h'.get? e = some (HandSPX.excO C t1) → Q .none ⟨h', g, d, t, os⟩) :
    wpAny (model prog w) A (call (.ref u) rest) Q E ⟨h, g, d, t, os⟩ := by
  refine wpAny_call (codeAny_of_tree ?_)
  show wpAny _ A.in1 (callAny (.ref u) ⟨rest, []⟩) _ _ _
  simp only [callAny]
  refine wpAny_bind (wpAny_load hu ?_)
  simp only [kxs_mw, show (Value.type "method-wrapper" == Value.type "method" || Value.type "method-wrapper" == Value.type "builtin_function_or_method" || Value.type "method-wrapper" == Value.type "method-wrapper") = true by decide, if_true]
  refine KFB.if_so (by decide) ?_
  refine wpAny_bind (check_bound_init FB.toExcCallFacts hC he rfl ?_)
  refine wpAny_bind (wpAny_pure (wpAny_pure ?_))
  refine ⟨plainId_quiet FB.init.plain _, codeAny_builtin FB.initEntry ?_⟩
  exact exc_init_tree (cls := .ref C) (t0 := t0) (dv := none) (c2 := .none) (c3 := .none) (b4 := .bool false) he hrest fun h' k he' _ => hq h' _ k he'
end
end Zx
end PySem
namespace Z
open PySem PySem.Spec PyProof.Rows L2
/-! ### own exception classes with an __init__ -/
structure ExK (K : PySem.W.Frag) (C : Addr) : Prop where
  cls : ∃ cd, PySem.W.clsIn K C = some cd ∧ cd.hasDict = true ∧ cd.mro.isEmpty = false ∧ cd.mro.contains (.type "object") = true ∧ ∀ x : Addr, refuseLoop (.ref x) "__setattr__" cd.mro = pure ()
  sa : PySem.W.findIn K (.ref C) "__setattr__" = some (some (.builtin "object.__setattr__"))
section
variable {X : Cx} {pins : List (Addr × Obj)} {σ : L2.St} {H : Hp} {s : Shared} {a C dx : Addr} {f : Str} {y : V} {u : Value} {fs : List (Str × V)} {Q : Unit → Shared → Prop} {E : Value → Shared → Prop} {A : Around}
theorem ost_newG (T : ExK X.K C) (I : Inv X pins σ H s) (e : H a = some (exo a C none)) (hno : PySem.W.findIn X.K (.ref C) f = some none) (ry : RelV y u)
    (h : ∀ dx s', s.heap.objs.size ≤ dx → dx ≠ a → Inv X pins σ (upd (upd H dx (exd dx [(f, y)])) a (exo a C (some dx))) s' → Q () s') : wpAny (model X.prog X.w) A (setAttr (.ref a) f u) Q E s := by
  obtain ⟨cd, hcl, hhd, hne, hob, hps⟩ := T.cls
  obtain ⟨t1, ho⟩ := exo_at I.hok e
  obtain ⟨hp, g, d, t, os⟩ := s
  refine PySem.W.set_plain I.kIn (ox := { cls := .ref C, dict := none, data := .fields #[.ref t1, .none, .none, .none, .bool false, .none] }) (od := none) ⟨ho, rfl, rfl, trivial⟩ T.sa ?_
  refine PySem.Zx.osa_newG I.kIn ho hcl (hps a) hob hne hhd hno (fun h' tk' dx k dn dne hx hn => ?_)
  have hnd : H dx = none := I.hok.fresh dn
  have nd : ∀ {b : Addr} {o : Obj}, hp.get? b = some o → b ≠ dx := fun {b o} q => Nat.ne_of_lt (Nat.lt_of_lt_of_le (Heap.lt_size q) dn)
  have na : ∀ {b : Addr}, H b = none → b ≠ a := fun {b} n z => by
    rw [z, e] at n
    cases n
  have Un1 : Un X.fs [] H (upd (upd H dx (exd dx [(f, y)])) a (exo a C (some dx))) hp h' := {
    keep := fun b o q n _ _ => k b o (na n) q
    slot := fun b o q n _ _ => ⟨o.slots, k b o (na n) q⟩
    free := fun b o q n _ => by rw [upd_ne (na n), upd_ne (nd q)]; exact n
    there := fun b o q _ => by
      by_cases hb : b = a
      · exact ⟨_, by rw [hb]; exact hx⟩
      · exact ⟨o, k b o hb q⟩
    tups := fun b xs q => by rw [upd_ne (at_ne e q exo_tup), upd_ne (ne_of_none q hnd)]; exact q
    frzs := fun b o v q => by rw [upd_ne (at_ne e q exo_frz), upd_ne (ne_of_none q hnd)]; exact q
    tbls := fun b ps q => ⟨#[], by rw [upd_ne (at_ne e q exo_tbl), upd_ne (ne_of_none q hnd), q]; simp⟩ }
  refine h dx _ dn dne (I.un (t' := tk') Un1 fun b o q => ?_)
  by_cases hb : b = a
  · subst hb
    rw [upd_same] at q
    cases q
    exact exo_ok hx
  · rw [upd_ne hb] at q
    by_cases hd : b = dx
    · subst hd
      rw [upd_same] at q
      cases q
      exact exd_ok hn (relO_put (fs := []) ry fun g => True.intro)
    · rw [upd_ne hd] at q
      exact (I.hok b o q).stay (fun c v hc z => k c v (by
          rcases hc with hc | hc
          · rw [hc]
            exact hb
          · exact at_ne e hc exo_own) z)
        (fun c hc => by rw [upd_ne (at_ne e hc exo_own), upd_ne (ne_of_none hc hnd)]; exact hc) (fun c xs hc => by rw [upd_ne (at_ne e hc exo_tup), upd_ne (ne_of_none hc hnd)]; exact hc)
theorem ost_oldG (T : ExK X.K C) (I : Inv X pins σ H s) (e : H a = some (exo a C (some dx))) (ed : H dx = some (exd dx fs)) (hl : fs.length ≤ 900) (hno : PySem.W.findIn X.K (.ref C) f = some none) (ry : RelV y u)
    (h : ∀ s', Inv X pins σ (upd H dx (exd dx ((f, y) :: fs))) s' → Q () s') : wpAny (model X.prog X.w) A (setAttr (.ref a) f u) Q E s := by
  obtain ⟨cd, hcl, hhd, hne, hob, hps⟩ := T.cls
  obtain ⟨t1, ho⟩ := exo_at I.hok e
  obtain ⟨mA, hns, rel⟩ := exd_at I.hok ed
  have hw := within_of rel
  obtain ⟨hp, g, d, t, os⟩ := s
  obtain ⟨oD, _, _, hoD, _, _⟩ := hns.count hw
  refine PySem.W.set_plain I.kIn (ox := { cls := .ref C, dict := some dx, data := .fields #[.ref t1, .none, .none, .none, .bool false, .none] }) (od := some oD) ⟨ho, rfl, rfl, hoD⟩ T.sa ?_
  refine PySem.Zx.osa_oldG I.kIn ho hns hw (by rw [List.length_map]; omega) hcl (hps a) hob hne hhd hno (fun h' tk' k hn => ?_)
  have hd : ∃ o, h'.get? dx = some o := by
    obtain ⟨o, _, _, e', _⟩ := hn
    exact ⟨o, e'⟩
  exact h _ (I.write (t' := tk') (x := dx) (e := dx) (o := exd dx ((f, y) :: fs)) (by rw [ed]; exact True.intro) (.inl rfl) k hd (exd_ok hn (relO_put ry rel)))
end
end Z

namespace Z
open PySem PySem.Spec PyProof.Rows L2
/-! ### super().__init__(e) in an own exception's __init__ -/
abbrev supF (qual : Str) (params : Arguments) (body : List Stmt) (scope : Scope) (cc cda : Addr) : NdefX.NF := ⟨"__init__", qual, params, body, scope, [("__class__", cc)], cda⟩
abbrev supFd (qual : Str) (params : Arguments) (body : List Stmt) (scope : Scope) (cc cda : Addr) (kV doc pm : Value) (an : Option Addr) (ct : Value) : FuncData := PySem.W.fnX "__init__" qual params body scope [("__class__", cc)] .none kV doc pm an (.ref cda) ct
/-- what the written part says of an own exception class C, its __init__ at fI -/
structure SupC (K : PySem.W.Frag) (pg : Program) (C fI cc cda : Addr) (B newId initId : String) (tl : List Value) (qual : Str) (params : Arguments) (body : List Stmt) (scope : Scope) (fs : List Str) : Prop where
  FB : ExcBaseFacts B newId initId tl
  KF : PySem.W.KxsFacts B initId
  qI : PySem.W.excInitIn K C tl newId = true
  ex : ExK K C
  exC : PySem.W.subIn K (.ref C) (.type "BaseException") = some true
  tyC : PySem.W.typeIn K (.ref C) = some (.type "type")
  kC : PySem.W.keepIn K (.ref C) = true
  iC : PySem.W.findIn K (.ref C) "__init__" = some (some (.ref fI))
  tI : PySem.W.typeIn K (.ref fI) = some (.type "function")
  lkI : ∃ oc od kV doc pm an ct osl, K.lookup fI = some ⟨oc, od, .func (supFd qual params body scope cc cda kV doc pm an ct), osl⟩
  cdI : PySem.W.codeIn K (.ref cda) qual = true
  cd : ∃ ccl cdd vs ccs file tf, K.lookup cda = some ⟨ccl, cdd, .fields vs, ccs⟩ ∧ vs[2]? = some (.str file tf) ∧ ((pg.main.file : Str) == file) = true
  cel : ∃ cl cld csl, K.lookup cc = some ⟨cl, cld, .cell (some (.ref C)), csl⟩
  su : PySem.W.ks_superIn K C C "__init__" = some (some (.builtin initId))
  sB : PySem.W.subIn K (.ref C) (.type B) = some true
  op : PySem.W.nsIn K cStatics "thirdparty.any" = some none
  mr : PySem.W.mroIn K C (.ref C) = some true
  fl : ∀ f ∈ fs, PySem.W.findIn K (.ref C) f = some none
/-- what the text says of such an __init__ -/
structure SupS (pg : Program) (mg : Str → Option Value) (params : Arguments) (scope : Scope) : Prop where
  par : ∃ ar, (params.posonlyargs ++ params.args).head? = some ar ∧ ar.arg = "self"
  kSelf : scope.names.lookup ("self" : Str) = some .local
  kCls : scope.names.lookup ("__class__" : Str) = some .free
  kSup : scope.names.lookup ("super" : Str) = some .globalImplicit
  kind : scope.kind = .function
  ms : mg "super" = none
  top : (pg.main.scope.names.lookup ("super" : Str)).isSome = false
section
variable {CX : CXT} {P : Program} {w : World} {K : PySem.W.Frag} {mg : Str → Option Value} {base : Heap} {N : List Str} {qual : Str} {params : Arguments} {body : List Stmt} {scope : Scope} {C fI cc cda : Addr} {B newId initId : String} {tl : List Value} {fs : List Str} {A : Around} {outer : List Env} {s0 : Shared} {H0 : Hp} {E : XK}
theorem boot_super : bootBuiltins "super" = some (.type "super") := by decide +kernel
theorem sup_call {pl : Sem Bool} {pins : List (Addr × Obj)} {σ : L2.St} {H : Hp} {s : Shared} {a : Addr} {j : Nat} {arg : Expr} {p0 p1 p2 p3 : Pos} {Q : Hp → Prop}
    (T : SupC K P C fI cc cda B newId initId tl qual params body scope fs) (S : SupS P mg params scope)
    (I : Inv (NdefX.ncx CX P w K mg base N (supF qual params body scope cc cda) fI A outer s0 H0 E) pins σ H s) (ea : H a = some (exo a C none)) (h0 : N[0]? = some ("self" : Str)) (hs0 : σ[0]? = some (some (.ref a))) (hj : N[j]? = some ("__class__" : Str)) (hsj : σ[j]? = some (some (.ref C)))
    (hargs : AD (NdefX.ncx CX P w K mg base N (supF qual params body scope cc cda) fI A outer s0 H0 E) [arg] σ H (fun vs H1 => vs.length ≤ 1000 ∧ H1 a = some (exo a C none) ∧ Q H1))
    (he : starEach [arg] (NdefX.envF (supF qual params body scope cc cda) fI s0.heap.objs.size) = (false, eval arg (NdefX.envF (supF qual params body scope cc cda) fI s0.heap.objs.size)) :: starEach [] (NdefX.envF (supF qual params body scope cc cda) fI s0.heap.objs.size))
    (hev : eval (.Call (.Attribute (.Call (.Name "super" p0) [] [] p1) "__init__" p2) [arg] [] p3) (NdefX.envF (supF qual params body scope cc cda) fI s0.heap.objs.size) = (do
      let ov ← attributeBase (.Call (.Name "super" p0) [] [] p1) "__init__" (NdefX.envF (supF qual params body scope cc cda) fI s0.heap.objs.size) (eval (.Call (.Name "super" p0) [] [] p1) (NdefX.envF (supF qual params body scope cc cda) fI s0.heap.objs.size))
      standAt p2.atName
      let (f, first) ← holding [ov] (getMethod ov "__init__" pl)
      callWith p3 f first (backTo p3 (starEach [arg] (NdefX.envF (supF qual params body scope cc cda) fI s0.heap.objs.size))) [])) :
    _root_.PySem.wpAt (model P w) (A.deeper (NdefX.envF (supF qual params body scope cc cda) fI s0.heap.objs.size)) (.func body (NdefX.envF (supF qual params body scope cc cda) fI s0.heap.objs.size)) (eval (.Call (.Attribute (.Call (.Name "super" p0) [] [] p1) "__init__" p2) [arg] [] p3) (NdefX.envF (supF qual params body scope cc cda) fI s0.heap.objs.size))
      (fun _ s' => ∃ H', Inv (NdefX.ncx CX P w K mg base N (supF qual params body scope cc cda) fI A outer s0 H0 E) pins σ H' s' ∧ Q H') (NdefX.ncx CX P w K mg base N (supF qual params body scope cc cda) fI A outer s0 H0 E).xe s := by
  obtain ⟨oc, od, kV, doc, pm, an, ct, osl, lkI⟩ := T.lkI
  obtain ⟨ccl, cdd, vs, ccs, file, tf, lkc, hvs, hfile⟩ := T.cd
  obtain ⟨ar, hp, har⟩ := S.par
  obtain ⟨mb, hb1, hb2⟩ := I.mod.blt
  obtain ⟨m, hn, hl⟩ := id I.loc
  obtain ⟨cd, hcl, hhd, hne, hob, hps⟩ := T.ex.cls
  obtain ⟨oD, hD1, hD2⟩ : ∃ oD, s.heap.get? C = some oD ∧ oD.data = .cls cd := by
    unfold PySem.W.clsIn at hcl
    split at hcl
    · rename_i c d cd' sl ho
      cases hcl
      exact ⟨_, I.kIn _ _ ho, rfl⟩
    · cases hcl
  obtain ⟨t1, hea⟩ := exo_at I.hok ea
  have hI := I.kIn (fI) _ lkI
  have hcd := I.kIn (cda) _ lkc
  refine PySem.ks_wpAt_MethodCall (pl := pl) ?_ hev
  refine PySem.ks_wpAt_super_base (f := fI) (cc := cda) S.kSup S.kCls (by decide) rfl hI rfl hp rfl hcd rfl hvs hfile S.top ?_
  refine PySem.W.ks_loadName_global S.kind S.kSup (Calls.loadGlobal_builtin (I.mod.glob.keeps I.bk) S.ms (hb1.keeps I.bk) ((hb2 _ (by decide)).trans boot_super) ⟨rfl, ?_⟩)
  have hcls : ∃ c, ([(("__class__" : Str), cc)] : List (Str × Addr)).lookup ("__class__" : Str) = some c ∧ s.heap.IsCell c (some (.ref C)) := by
    obtain ⟨u, ru, lk⟩ := hl j "__class__" (.ref C) hj hsj (.inr (.inr S.kCls))
    cases (show u = Value.ref C from ru)
    rcases lk with ⟨k, _⟩ | ⟨_, c, h1, h2⟩
    · have k : scope.names.lookup ("__class__" : Str) = some .local := k
      rw [S.kCls] at k; cases k
    · exact ⟨c, h1, h2⟩
  obtain ⟨c, hc1, hc2⟩ := hcls
  refine wpAny_loadName_free S.kind S.kCls hc1 hc2 ?_
  have hself : m ar.arg = some (.ref a) := by
    obtain ⟨u, ru, lk⟩ := hl 0 "self" (.ref a) h0 hs0 (.inl S.kSelf)
    cases (show u = Value.ref a from ru)
    rw [har]
    rcases lk with ⟨_, e⟩ | ⟨k, _⟩
    · exact e
    · have k : scope.names.lookup ("self" : Str) = some .cell ∨ scope.names.lookup ("self" : Str) = some .free := k
      rw [S.kSelf] at k; rcases k with k | k <;> cases k
  refine wpAny_loadName_local S.kind (by show scope.names.lookup ar.arg = _; rw [har]; exact S.kSelf) hn hself ?_
  obtain ⟨hp', g, d, t, os⟩ := s
  refine PySem.ks_wpAny_isType_cls hD1 hD2 ⟨rfl, ?_⟩
  refine PySem.ks_wpAny_call_super hD1 hD2 hea rfl (fun c z => by cases z) (PySem.W.looks_mroIn I.kIn T.mr) (fun h1 e1 k1 => ?_)
  have I1 : Inv (NdefX.ncx CX P w K mg base N (supF qual params body scope cc cda) fI A outer s0 H0 E) pins σ H ⟨h1, g, d, t, os⟩ := I.kept (t' := t) (fun b o z => k1 b o z)
  obtain ⟨t2, hea1⟩ := exo_at I1.hok ea
  have J : PySem.W.InstAt h1 a ({ cls := .ref C, dict := none, data := .fields #[.ref t2, .none, .none, .none, .bool false, .none] } : Obj) C none := ⟨hea1, rfl, rfl, trivial⟩
  have X1 : K.In h1 := I1.kIn
  refine PySem.W.kxs_getMethod T.KF e1 (PySem.W.looks_opaque X1 T.op) (l₀ := cd.mro) (fun A Q E s k q => wpAny_bind ((PySem.W.looks_clsIn X1 hcl) A _ E s k (wpAny_pure q))) rfl X1 ?_ (J.type.andThen (PySem.W.looks_subIn X1 T.sB)) (PySem.W.ks_ne X1 J hcl) (by decide) ?_
  · have hsu := T.su
    unfold PySem.W.ks_superIn at hsu
    rw [hcl] at hsu
    exact hsu
  have I2 := ClX.pin_new (t' := t + 1) I1 (a := h1.objs.size) (h' := h1.push (PySem.W.kxs_mw initId a)) (o := PySem.W.kxs_mw initId a) (fun b o z => Heap.get?_push_of_some _ z) (Nat.le_refl _) (Heap.get?_push_at rfl rfl) (fun v z => by cases z)
  show wpAny _ _ (callWith p3 (.ref h1.objs.size) [] (backTo p3 (starEach [arg] _)) []) _ _ _
  rw [he]
  refine PySem.W.kxs_callWith (i := initId) (x := a) (by show (false || (backTo p3 (starEach [] _)).any (·.1)) = false; rfl) ?_
  refine PySem.Calls.evalArgs_plain ?_
  have hA := hargs p3 _ _ I2
  rw [show starEach [arg] (NdefX.ncx CX P w K mg base N (supF qual params body scope cc cda) fI A outer s0 H0 E).env = (false, eval arg (NdefX.envF (supF qual params body scope cc cda) fI s0.heap.objs.size)) :: starEach [] (NdefX.envF (supF qual params body scope cc cda) fI s0.heap.objs.size) from he] at hA
  refine thn hA fun us s3 ⟨vs3, H1, I3, rv, hlen, ea3, q⟩ => ⟨ClX.pin_at I3, ?_⟩
  obtain ⟨nm, N', qn, bs, bm, hdct, sn, sub, ab, col, dd, k0, k1', k2, k3, k5, hC, hT⟩ := PySem.W.excInit_of I3.kIn T.qI
  obtain ⟨t3, hea3⟩ := exo_at I3.hok ea3
  have hu := ClX.pin_at I3
  obtain ⟨hp3, g3, d3, tk3, os3⟩ := s3
  refine PySem.Zx.call_mwG T.FB hC hea3 hu (by show us.length ≤ sizeLine; rw [← Paired.length rv, sizeLine_eq]; omega) fun h' t4 k hx => ?_
  have J3 := I3.write (t' := tk3) (x := a) (e := a) (o := exo a C none) (by rw [ea3]; exact True.intro) (.inl rfl) k ⟨_, hx⟩ (exo_ok hx)
  have eu : upd H1 a (exo a C none) = H1 := by
    funext b
    by_cases hb : b = a
    · rw [hb, upd_same, ea3]
    · rw [upd_ne hb]
  rw [eu] at J3
  exact ⟨H1, ClX.unpin J3, q⟩
end
end Z

namespace Z
open PySem PySem.Spec PyProof.Rows L2
/-! ### the rest of such an __init__: self.f = f, .. -/
inductive Asgs : List Stmt → List Str → Prop
  | nil : Asgs [] []
  | cons {f : Str} {p1 p2 p3 p4 : Pos} {rest : List Stmt} {fs : List Str} (h : Asgs rest fs) : Asgs (.Assign [.Attribute (.Name "self" p1) f p2] (.Name f p3) p4 :: rest) (f :: fs)
/-- a name's slot -/
def Slot0 (X : Cx) (σ : L2.St) (x : Str) (v : V) : Prop := ∃ i : Nat, X.N[i]? = some x ∧ σ[i]? = some (some v) ∧ Vis X.env.scope x ∧ (x == ("__debug__" : Str)) = false ∧ (x == ("__classdict__" : Str)) = false
section
variable {X : Cx} {pins : List (Addr × Obj)} {σ : L2.St} {a C : Addr} {val : Str → V} {Q : Flow → Shared → Prop}
theorem slot0_eval {E : Value → Shared → Prop} {x : Str} {v : V} {pos : Pos} {H : Hp} {s : Shared} {Q : Value → Shared → Prop} (h : Slot0 X σ x v) (I : Inv X pins σ H s) (hE : E = X.xe) (k : ∀ u s', RelV v u → Inv X pins σ H s' → s'.heap = s.heap → Q u s') : wpAny (model X.prog X.w) X.A (eval (.Name x pos) X.env) Q E s := by
  subst hE
  obtain ⟨i, h1, h2, h3, h4, h5⟩ := h
  obtain ⟨m, hn, hl⟩ := id I.loc
  obtain ⟨u, ru, lk⟩ := hl i x v h1 h2 h3
  refine wpAny_Name ?_ h4
  rcases lk with ⟨k1, e⟩ | ⟨k1, c, e1, e2⟩
  · exact wpAny_loadName_local I.ok.kind k1 hn e (k u s ru I rfl)
  · rcases k1 with k1 | k1
    · exact wpAny_loadName_cell I.ok.kind k1 e1 e2 (k u s ru I rfl)
    · exact wpAny_loadName_free I.ok.kind k1 e1 e2 (k u s ru I rfl) h5
theorem asgs_old (T : ExK X.K C) (hself : Slot0 X σ "self" (.ref a)) {dx : Addr} : ∀ {rest : List Stmt} {fs : List Str}, Asgs rest fs → (∀ f ∈ fs, PySem.W.findIn X.K (.ref C) f = some none) → (∀ f ∈ fs, Slot0 X σ f (val f)) → ∀ {s : Shared} {H : Hp} {fsv : List (Str × V)}, Inv X pins σ H s → H a = some (exo a C (some dx)) → H dx = some (exd dx fsv) → fsv.length + fs.length ≤ 900 →
    (∀ s' H', Inv X pins σ H' s' → H' a = some (exo a C (some dx)) → H' dx = some (exd dx ((fs.map fun f => (f, val f)).reverse ++ fsv)) → (∀ b, b ≠ dx → H' b = H b) → Q .next s') → wpAny (model X.prog X.w) X.A (execs rest X.env) Q X.xe s
  | _, _, .nil, _, _, s, H, fsv, I, ea, ed, _, k => wpAny_execs_nil (k s H I ea (by simpa using ed) fun _ _ => rfl)
  | _, _, @Asgs.cons f p1 p2 p3 p4 rest fs h, hfl, hval, s, H, fsv, I, ea, ed, hl, k => by
    refine wpAny_execs_cons ?_
    refine plainObj_wpAny_Assign_Attribute (slot0_eval (hval f (List.mem_cons_self ..)) I rfl fun u s1 ru I1 _ => slot0_eval hself I1 rfl fun u2 s2 ru2 I2 _ => ?_)
    obtain rfl : u2 = Value.ref a := ru2
    have hne : dx ≠ a := by
      rintro rfl
      obtain ⟨t0, h1⟩ := exo_at I.hok ea
      obtain ⟨mA, ⟨o, es, ep, e1, e2, _⟩, _⟩ := exd_at I.hok ed
      rw [h1] at e1
      cases e1
      cases e2
    refine ost_oldG T I2 ea ed (by simp at hl; omega) (hfl f (List.mem_cons_self ..)) ru fun s3 I3 => ?_
    refine asgs_old T hself h (fun g hg => hfl g (List.mem_cons_of_mem _ hg)) (fun g hg => hval g (List.mem_cons_of_mem _ hg)) (fsv := (f, val f) :: fsv) I3 (by rw [upd_ne (Ne.symm hne)]; exact ea) upd_same (by simp at hl ⊢; omega) fun s4 H4 I4 e1 e2 e3 => k s4 H4 I4 e1 ?_ fun b hb => ?_
    · rw [e2, List.map_cons, List.reverse_cons, List.append_assoc]
      rfl
    · rw [e3 b hb, upd_ne hb]
theorem asgs_new (T : ExK X.K C) (hself : Slot0 X σ "self" (.ref a)) {f : Str} {fs : List Str} {rest : List Stmt} (h : Asgs rest (f :: fs)) (hfl : ∀ g ∈ f :: fs, PySem.W.findIn X.K (.ref C) g = some none) (hval : ∀ g ∈ f :: fs, Slot0 X σ g (val g)) {s : Shared} {H : Hp} (I : Inv X pins σ H s) (ea : H a = some (exo a C none)) (hl : fs.length ≤ 800)
    (k : ∀ s' H' dx, X.s_0.heap.objs.size ≤ dx → dx ≠ a → H dx = none → Inv X pins σ H' s' → H' a = some (exo a C (some dx)) → H' dx = some (exd dx ((f :: fs).map fun f => (f, val f)).reverse) → (∀ b, b ≠ dx → b ≠ a → H' b = H b) → Q .next s') : wpAny (model X.prog X.w) X.A (execs rest X.env) Q X.xe s := by
  cases h with
  | @cons _ p1 p2 p3 p4 rest _ h =>
    refine wpAny_execs_cons ?_
    refine plainObj_wpAny_Assign_Attribute (slot0_eval (hval f (List.mem_cons_self ..)) I rfl fun u s1 ru I1 _ => slot0_eval hself I1 rfl fun u2 s2 ru2 I2 _ => ?_)
    obtain rfl : u2 = Value.ref a := ru2
    refine ost_newG T I2 ea (hfl f (List.mem_cons_self ..)) ru fun dx s3 hsz hne I3 => ?_
    have h0 : X.s_0.heap.objs.size ≤ dx := by
      exact Nat.le_trans (Nat.le_trans I2.ok.above (Nat.le_of_lt I2.lt)) hsz
    refine asgs_old T hself h (fun g hg => hfl g (List.mem_cons_of_mem _ hg)) (fun g hg => hval g (List.mem_cons_of_mem _ hg)) (fsv := [(f, val f)]) I3 upd_same (by rw [upd_ne hne]; exact upd_same) (by simp; omega) fun s4 H4 I4 e1 e2 e3 => k s4 H4 dx h0 hne (I2.hok.fresh hsz) I4 e1 ?_ fun b hb hb2 => ?_
    · rw [e2, List.map_cons, List.reverse_cons]
    · rw [e3 b hb, upd_ne hb2, upd_ne hb]
end
end Z

namespace Z
open PySem PySem.Spec PyProof.Rows L2
/-! ### such an __init__, called -/
def valOf (ps : List Str) (ws : List V) (f : Str) : V := ((ps.zip ws).lookup f).getD .non
theorem valOf_at : ∀ {ps : List Str} {ws : List V} {i : Nat} {f : Str} {v : V}, ps.Nodup → ps[i]? = some f → ws[i]? = some v → valOf ps ws f = v
  | [], _, _, _, _, _, h, _ => by simp at h
  | _ :: _, [], _, _, _, _, _, h => by simp at h
  | p :: ps, x :: ws, 0, f, v, nd, h1, h2 => by
    simp at h1 h2
    subst h1 h2
    simp [valOf, List.lookup]
  | p :: ps, x :: ws, i + 1, f, v, nd, h1, h2 => by
    have hn := List.nodup_cons.mp nd
    have h1 : ps[i]? = some f := by simpa using h1
    have hne : (f == p) = false := by
      rw [beq_eq_false_iff_ne]
      rintro rfl
      exact hn.1 (List.mem_of_getElem? h1)
    have := valOf_at (i := i) hn.2 h1 (by simpa using h2)
    unfold valOf at this ⊢
    rw [List.zip_cons_cons, List.lookup_cons, hne]
    exact this
theorem zip_val : ∀ {ps : List Str} {ws : List V}, ps.Nodup → ws.length = ps.length → (ps.map fun f => (f, valOf ps ws f)) = ps.zip ws
  | [], [], _, _ => rfl
  | [], _ :: _, _, hl => by simp at hl
  | _ :: _, [], _, hl => by simp at hl
  | p :: ps, w :: ws, nd, hl => by
    have hn := List.nodup_cons.mp nd
    rw [List.map_cons, List.zip_cons_cons]
    congr 1
    · simp [valOf, List.lookup]
    · rw [← zip_val hn.2 (by simpa using hl)]
      refine List.map_congr_left fun f hf => ?_
      have hne : (f == p) = false := by
        rw [beq_eq_false_iff_ne]
        rintro rfl
        exact hn.1 hf
      unfold valOf
      rw [List.zip_cons_cons, List.lookup_cons, hne]
abbrev zS : Str := "self"
abbrev zC : Str := "__class__"
section
variable {CX : CXT} {P : Program} {w : World} {K : PySem.W.Frag} {mg : Str → Option Value} {base : Heap} {qual : Str} {params : Arguments} {body rest : List Stmt} {scope : Scope} {C fI cc cda : Addr} {B newId initId : String} {tl : List Value} {ps : List Str} {A : Around} {outer : List Env} {E : XK}
theorem sup_cells (T : SupC K P C fI cc cda B newId initId tl qual params body scope ps) {s : Shared} {H : Hp} (e0 : Env0 P w K mg base A outer s H) : NdefX.CellsAt [(zC, cc)] [zC] [some (.ref C)] s.heap H := by
  obtain ⟨cl, cld, csl, lk⟩ := T.cel
  have hb := e0.bs cc _ (e0.mod.kin _ _ lk)
  have look : ∀ (y : Str) (c : Addr), ([(("__class__" : Str), cc)] : List (Str × Addr)).lookup y = some c → y = "__class__" ∧ c = cc := fun y c h => by
    rw [List.lookup_cons] at h
    by_cases hy : (y == ("__class__" : Str)) = true
    · rw [hy] at h
      cases h
      exact ⟨by simpa using hy, rfl⟩
    · rw [Bool.not_eq_true] at hy
      rw [hy] at h
      cases h
  refine ⟨rfl, fun y c h => ?_, fun x y c h1 h2 => ?_, fun i y hi => ?_⟩
  · obtain ⟨_, rfl⟩ := look y c h
    exact ⟨hb.2, _, _, hb.1, rfl⟩
  · rw [(look x c h1).1, (look y c h2).1]
  · match i, hi with
    | 0, hi =>
      simp at hi
      subst hi
      refine ⟨cc, by simp [List.lookup], fun v hv => ?_⟩
      simp at hv
      subst hv
      exact ⟨.ref C, rfl, _, hb.1, rfl⟩
theorem sup_run {pl : Sem Bool} {s : Shared} {H : Hp} {a : Addr} {ws : List V} {us : List Value} {k : Nat} {f0 : Str} {ps' : List Str} {arg : Expr} {p0 p1 p2 p3 p4 : Pos} {Q : VK} {Q1 : Hp → Prop}
    (T : SupC K P C fI cc cda B newId initId tl qual params body scope ps) (S : SupS P mg params scope)
    (hbody : body = .Expr (.Call (.Attribute (.Call (.Name "super" p0) [] [] p1) "__init__" p2) [arg] [] p3) p4 :: rest) (hasg : Asgs rest ps) (hps : ps = f0 :: ps') (hl8 : ps.length ≤ 800)
    (NS : NdefX.NScope (zS :: ps ++ [zC]) (zS :: ps) [zC] scope) (hdb : ∀ f ∈ zS :: ps, (f == ("__debug__" : Str)) = false ∧ (f == ("__classdict__" : Str)) = false)
    (hr : Room (k + 1) A) (e0 : Env0 P w K mg base A outer s H) (hbind : ∀ (kV doc pm : Value) (an : Option Addr) (ct : Value) (us : List Value), us.length = ps.length + 1 → bindArgs (supFd qual params body scope cc cda kV doc pm an ct) ⟨us, []⟩ = pure ((zS :: ps).zip us))
    (r : Vals (.ref a :: ws) us) (hw : ws.length = ps.length) (ea : H a = some (exo a C none))
    (hargs : AD (NdefX.ncx CX P w K mg base (zS :: ps ++ [zC]) (supF qual params body scope cc cda) fI A outer s H E) [arg] (NdefX.startF (zS :: ps ++ [zC]) (.ref a :: ws) [some (.ref C)]) H (fun vs H1 => vs.length ≤ 1000 ∧ H1 a = some (exo a C none) ∧ Q1 H1))
    (he : starEach [arg] (NdefX.envF (supF qual params body scope cc cda) fI s.heap.objs.size) = (false, eval arg (NdefX.envF (supF qual params body scope cc cda) fI s.heap.objs.size)) :: starEach [] (NdefX.envF (supF qual params body scope cc cda) fI s.heap.objs.size))
    (hev : eval (.Call (.Attribute (.Call (.Name "super" p0) [] [] p1) "__init__" p2) [arg] [] p3) (NdefX.envF (supF qual params body scope cc cda) fI s.heap.objs.size) = (do
      let ov ← attributeBase (.Call (.Name "super" p0) [] [] p1) "__init__" (NdefX.envF (supF qual params body scope cc cda) fI s.heap.objs.size) (eval (.Call (.Name "super" p0) [] [] p1) (NdefX.envF (supF qual params body scope cc cda) fI s.heap.objs.size))
      standAt p2.atName
      let (f, first) ← holding [ov] (getMethod ov "__init__" pl)
      callWith p3 f first (backTo p3 (starEach [arg] (NdefX.envF (supF qual params body scope cc cda) fI s.heap.objs.size))) []))
    (hsw : swapsWith (.Call (.Attribute (.Call (.Name "super" p0) [] [] p1) "__init__" p2) [arg] [] p3) none p4.line (NdefX.envF (supF qual params body scope cc cda) fI s.heap.objs.size) = pure false)
    (hQ : ∀ H1 H2 dx, Q1 H1 → s.heap.objs.size ≤ dx → dx ≠ a → H1 dx = none → H2 a = some (exo a C (some dx)) → H2 dx = some (exd dx (ps.zip ws).reverse) → (∀ b, b ≠ dx → b ≠ a → H2 b = H1 b) → Q .non H2) :
    codeAny (model P w) A (.call (.ref fI) ⟨us, []⟩) (CR CX outer P w H s Q E) s := by
  obtain ⟨oc, od, kV, doc, pm, an, ct, osl, lkI⟩ := T.lkI
  have KX : K.In s.heap := e0.mod.kin.keeps fun b o e => (e0.bs b o e).1
  have lim : s.heap.NoLimit := e0.mod.nolimit.keeps fun b o e => (e0.bs b o e).1
  have hul : us.length = ps.length + 1 := by
    rw [← r.length, List.length_cons, hw]
  have hnd : ps.Nodup := by
    have q := NS.nd
    rw [List.cons_append, List.nodup_cons] at q
    exact (List.nodup_append.mp q.2).1
  refine PySem.ks_codeAny_call_defAt (fd := supFd qual params body scope cc cda kV doc pm an ct) (body := body) (binds := (zS :: ps).zip us) hr.depth (KX _ _ lkI) rfl lim (PySem.W.codeRec_of KX T.cdI) rfl (BindsTo.of_eq (hbind _ _ _ _ _ us hul)) NS.nocell (fun x hx => NS.par x.1 (List.of_mem_zip (show (x.1, x.2) ∈ _ from hx)).1) (fun h₁ hns kp => ?_) NS.co NS.gen NS.kind
  have I : Inv (NdefX.ncx CX P w K mg base (zS :: ps ++ [zC]) (supF qual params body scope cc cda) fI A outer s H E) [] (NdefX.startF (zS :: ps ++ [zC]) (.ref a :: ws) [some (.ref C)]) H { s with heap := h₁, toks := s.toks + ((zS :: ps).zip us).length } :=
    NdefX.inv_startN NS hr.hd e0 (by rw [List.length_cons, List.length_cons, hw]) r (sup_cells T e0) hns kp
  have hσ0 : NdefX.startF (zS :: ps ++ [zC]) (.ref a :: ws) [some (.ref C)] = (V.ref a :: ws).map some ++ [some (V.ref C)] := by
    unfold NdefX.startF
    have h0 : (zS :: ps ++ [zC]).length - (V.ref a :: ws).length - [some (V.ref C)].length = 0 := by
      simp only [List.length_append, List.length_cons, List.length_nil, hw]
      omega
    rw [h0]
    rfl
  have hσ : ∀ i : Nat, (NdefX.startF (zS :: ps ++ [zC]) (.ref a :: ws) [some (.ref C)])[i]? = ((V.ref a :: ws).map some ++ [some (V.ref C)])[i]? := fun i => by rw [hσ0]
  have hj : (zS :: ps ++ [zC])[ps.length + 1]? = some ("__class__" : Str) := by simp
  have hsj : (NdefX.startF (zS :: ps ++ [zC]) (.ref a :: ws) [some (.ref C)])[ps.length + 1]? = some (some (.ref C)) := by
    rw [hσ, List.getElem?_append_right (by rw [List.length_map, List.length_cons, hw]; omega), List.length_map, List.length_cons, hw, Nat.sub_self]
    rfl
  have hself : Slot0 (NdefX.ncx CX P w K mg base (zS :: ps ++ [zC]) (supF qual params body scope cc cda) fI A outer s H E) (NdefX.startF (zS :: ps ++ [zC]) (.ref a :: ws) [some (.ref C)]) "self" (.ref a) :=
    ⟨0, rfl, by rw [hσ]; rfl, .inl (NS.par _ (List.mem_cons_self ..)), hdb _ (List.mem_cons_self ..)⟩
  have hval : ∀ f ∈ ps, Slot0 (NdefX.ncx CX P w K mg base (zS :: ps ++ [zC]) (supF qual params body scope cc cda) fI A outer s H E) (NdefX.startF (zS :: ps ++ [zC]) (.ref a :: ws) [some (.ref C)]) f (valOf ps ws f) := fun f hf => by
    obtain ⟨i, hi⟩ := List.getElem?_of_mem hf
    have hil := (List.getElem?_eq_some_iff.mp hi).1
    refine ⟨i + 1, ?_, ?_, .inl (NS.par _ (List.mem_cons_of_mem _ hf)), hdb _ (List.mem_cons_of_mem _ hf)⟩
    · show (zS :: ps ++ [zC])[i + 1]? = some f
      rw [List.cons_append, List.getElem?_cons_succ, List.getElem?_append_left hil]
      exact hi
    · rw [hσ, List.map_cons, List.cons_append, List.getElem?_cons_succ, List.getElem?_append_left (by rw [List.length_map]; omega), List.getElem?_map]
      have hwi : ws[i]? = some ws[i] := List.getElem?_eq_getElem (by omega)
      rw [hwi, valOf_at hnd hi hwi]
      rfl
  subst hbody
  refine PySem.ks_wpAt_execs_cons (PySem.ks_wpAt_Expr_any (PySem.ks_wpAt_mono (sup_call (pl := pl) (j := ps.length + 1) (Q := fun H1 => H1 a = some (exo a C none) ∧ Q1 H1) T S I ea rfl (by rw [hσ]; rfl) hj hsj (fun pos pins s I => thn (hargs pos pins s I) fun us s' ⟨vs, H1, J, r, a1, a2, a3⟩ => ⟨vs, H1, J, r, a1, a2, a2, a3⟩) he hev) (fun v s' hs => ?_) (fun e s' x => x)) (by show (scope.kind == .module && _) = false; rw [NS.kind]; rfl) hsw)
  obtain ⟨H1, I1, ea1, q1⟩ := hs
  refine PySem.wpAt_of_wpAny ?_
  subst hps
  refine asgs_new (val := valOf (f0 :: ps') ws) T.ex hself hasg T.fl hval I1 ea1 (by simp at hl8; omega) fun s2 H2 dx hd1 hd2 hd3 I2 e1 e2 e3 => ?_
  rw [zip_val hnd hw] at e2
  exact ⟨V.non, H2, I2.os, I2.bare, I2.base, I2.hok, rfl, hQ H1 H2 dx q1 hd1 hd2 hd3 e1 e2 e3⟩
end
end Z

namespace Z
open PySem PySem.Spec PyProof.Rows L2
/-! ### raise X(e, ..), X an own class with such an __init__ -/
def sRaise (c : Str) (fs : List Str) (m : M) (ma : MA) : MS := fun sl S => (ma sl S).st sl fun ds S1 => match pures ds with
  | some ps => if ps.length = fs.length then match m (none :: (ps.map fun p => some (Z.D.p p)) ++ [none]) S1 with
      | .ok (.p (.str _)) S2 => .exc ⟨c, fs.reverse, ps.reverse⟩ sl S2
      | _ => .no
    else .no
  | none => .no
def MkD (X : Cx) (e : Expr) : L2.St → Hp → XK → Prop := fun σ H Q => ∀ (pins : List (Addr × Obj)) (s : Shared), Inv X pins σ H s → wpAny (model X.prog X.w) X.A (eval e X.env) (MkP X pins σ Q) X.xe s
theorem pmk_d {X : Cx} {e : Expr} : PMk X e (MkD X e) := fun pins s _ _ _ I h => h pins s I
section
variable {K : Fr} {G F H : Hp} {R : List Addr} {S : Store} {a : Addr} {o : HO}
theorem Rep.guardX (h : Rep K G F R S H) (n : H a = none) : Rep K (upd G a o) F R S (upd H a o) := by
  obtain ⟨pc, h⟩ := h
  refine ⟨pc, fun b x e => ?_, h.len, h.ok, fun m b x e => ?_, h.sep, h.emp, fun b x e => ?_⟩
  · have hb := h.sub _ _ e
    rw [upd_ne (ne_of_none hb n)]; exact hb
  · obtain ⟨h1, h2⟩ := h.out m b x e
    exact ⟨h1, by rw [upd_ne (ne_of_none h2 n)]; exact h2⟩
  · by_cases hb : b = a
    · subst hb
      rw [upd_same] at e
      cases e
      exact ⟨upd_same, h.sub.free n, fun m => h.free n m⟩
    · rw [upd_ne hb] at e
      obtain ⟨h1, h2, h3⟩ := h.grd b x e
      exact ⟨by rw [upd_ne hb]; exact h1, h2, h3⟩
theorem Rep.unguard (h : Rep K (upd G a o) F R S H) (n : G a = none) : Rep K G F R S (del H a) := by
  obtain ⟨pc, h⟩ := h
  obtain ⟨g1, g2, g3⟩ := h.grd a o upd_same
  refine ⟨pc, fun b x e => ?_, h.len, h.ok, fun m b x e => ?_, h.sep, h.emp, fun b x e => ?_⟩
  · have hb : b ≠ a := fun z => by rw [z, g2] at e; cases e
    rw [del_ne hb]; exact h.sub _ _ e
  · obtain ⟨h1, h2⟩ := h.out m b x e
    have hb : b ≠ a := fun z => by rw [z, g3] at e; cases e
    exact ⟨h1, by rw [del_ne hb]; exact h2⟩
  · have hb : b ≠ a := fun z => by rw [z, n] at e; cases e
    obtain ⟨h1, h2, h3⟩ := h.grd b x (by rw [upd_ne hb]; exact e)
    exact ⟨by rw [del_ne hb]; exact h1, h2, h3⟩
theorem Rep.noG (h : Rep K G F R S H) (n : H a = none) : G a = none := by
  obtain ⟨pc, h⟩ := h
  cases e : G a with
  | none => rfl
  | some x => rw [(h.grd a x e).1] at n; cases n
theorem Rep.hasG (h : Rep K (upd G a o) F R S H) : H a = some o := by
  obtain ⟨pc, h⟩ := h
  exact (h.grd a o upd_same).1
end
/-- the text's part of an own exception class: its __init__'s body -/
structure SupB (pg : Program) (body : List Stmt) (arg : Expr) (fs : List Str) (qual : Str) (params : Arguments) (scope : Scope) (m : M) (K : PySem.W.Frag) (mg : Str → Option Value) (base : Heap) (w : World) (CX : CXT) (cc cda fI : Addr) : Prop where
  shape : ∃ p0 p1 p2 p3 p4 rest f0 fs', body = .Expr (.Call (.Attribute (.Call (.Name "super" p0) [] [] p1) "__init__" p2) [arg] [] p3) p4 :: rest ∧ Asgs rest fs ∧ fs = f0 :: fs' ∧
    (∀ env : Env, ∃ pl : Sem Bool, eval (.Call (.Attribute (.Call (.Name "super" p0) [] [] p1) "__init__" p2) [arg] [] p3) env = (do
      let ov ← attributeBase (.Call (.Name "super" p0) [] [] p1) "__init__" env (eval (.Call (.Name "super" p0) [] [] p1) env)
      standAt p2.atName
      let (f, first) ← holding [ov] (getMethod ov "__init__" pl)
      callWith p3 f first (backTo p3 (starEach [arg] env)) [])) ∧
    (∀ env : Env, swapsWith (.Call (.Attribute (.Call (.Name "super" p0) [] [] p1) "__init__" p2) [arg] [] p3) none p4.line env = pure false)
  l8 : fs.length ≤ 800
  ns : NdefX.NScope (zS :: fs ++ [zC]) (zS :: fs) [zC] scope
  db : ∀ f ∈ zS :: fs, (f == ("__debug__" : Str)) = false ∧ (f == ("__classdict__" : Str)) = false
  bind : ∀ (kV doc pm : Value) (an : Option Addr) (ct : Value) (us : List Value), us.length = fs.length + 1 → bindArgs (supFd qual params body scope cc cda kV doc pm an ct) ⟨us, []⟩ = pure ((zS :: fs).zip us)
  one : ∀ env : Env, starEach [arg] env = (false, eval arg env) :: starEach [] env
  arg : ∀ (A : Around) (outer : List Env) (s : Shared) (H G : Hp), Ej ⟨NdefX.ncx CX pg w K mg base (zS :: fs ++ [zC]) (supF qual params body scope cc cda) fI A outer s H (fun _ _ _ => False), fun _ _ _ _ => False, takes0, G, Pin.nil⟩ m arg
theorem sup_slots {K : Fr} {F : Hp} {R : List Addr} {fs : List Str} {a C : Addr} {vs : List V} {ps : List P} (h : RpAll K F vs ps) (hl : ps.length = fs.length) : SlR K Pin.nil F R (NdefX.startF (zS :: fs ++ [zC]) (.ref a :: vs) [some (.ref C)]) (none :: (ps.map fun p => some (Z.D.p p)) ++ [none]) := by
  have hvl := h.length
  have hσ0 : NdefX.startF (zS :: fs ++ [zC]) (.ref a :: vs) [some (.ref C)] = (V.ref a :: vs).map some ++ [some (V.ref C)] := by
    unfold NdefX.startF
    have h0 : (zS :: fs ++ [zC]).length - (V.ref a :: vs).length - [some (V.ref C)].length = 0 := by
      simp only [List.length_append, List.length_cons, List.length_nil, hvl, hl]
      omega
    rw [h0]
    rfl
  rw [hσ0]
  refine ⟨by simp [hvl], fun i d e => ?_, trivial⟩
  cases i with
  | zero => cases e
  | succ i =>
    rw [List.cons_append, List.getElem?_cons_succ] at e
    rw [List.map_cons, List.cons_append, List.getElem?_cons_succ]
    by_cases hi : i < ps.length
    · rw [List.getElem?_append_left (by rw [List.length_map]; exact hi), List.getElem?_map] at e
      have hp : ps[i]? = some ps[i] := List.getElem?_eq_getElem hi
      rw [hp] at e
      cases e
      obtain ⟨v, e1, e2⟩ := RpAll.get' h hp
      refine ⟨v, ?_, e2⟩
      rw [List.getElem?_append_left (by rw [List.length_map]; omega), List.getElem?_map, e1]
      rfl
    · rw [List.getElem?_append_right (by rw [List.length_map]; omega), List.length_map] at e
      cases hk : i - ps.length with
      | zero => rw [hk] at e; cases e
      | succ k => rw [hk] at e; simp at e
section
variable {C : Kx} {x c : Str} {fs : List Str} {m : M} {ma : MA} {e arg : Expr} {es : List Expr} {p pos pos' : Pos} {cc cda fI : Addr} {B newId initId : String} {tl : List Value} {qual : Str} {params : Arguments} {body : List Stmt} {scope : Scope} {k : Nat}
theorem sj_raise (hc : C.X.calm = true) (T : SupC C.X.K C.X.prog (He.ga C.X.K c) fI cc cda B newId initId tl qual params body scope fs) (S : SupS C.X.prog C.X.mg params scope) (SB : SupB C.X.prog body arg fs qual params scope m C.X.K C.X.mg C.X.base C.X.w (L2.CX C.X.prog C.X.w) cc cda fI)
    (hr : Room (k + 2) C.X.A) (hm : C.X.mg x = some (.ref (He.ga C.X.K c))) (ha : Aj C ma (e :: es)) (hg : Gl C.X x := by rfl) (hdb : (x == ("__debug__" : Str)) = false := by decide) (he : Se C e es := by exact se_of rfl) (hpl : Pl C es pos := by exact pl_of rfl) :
    Sj1 C (sRaise c fs m ma) (.Raise (some (.Call (.Name x p) (e :: es) [] pos)) none pos') := .mk fun sl S0 σ F R H hs hr' D post => by
  refine SD1.of (ps_raise hc C.tk pmk_d) ?_
  intro pins s I
  obtain ⟨p0, p1, p2, p3, p4, rest, f0, fs', hbody, hasg, hfs, hev, hsw⟩ := SB.shape
  refine wpAny_Call_Name_kw (ld_glob I hg hm ?_ hdb)
  have hA := ha sl S0 σ F R H hs hr' (fun vs H1 => ∃ F1 R1 S1 S2 ps z, RpAll C.K F1 vs ps ∧ ps.length = fs.length ∧ Rep C.K C.G F1 R1 S1 H1 ∧ Same F F1 ∧ R <+: R1 ∧ m (none :: (ps.map fun p => some (Z.D.p p)) ++ [none]) S1 = .ok (.p (.str z)) S2 ∧ PostS C F1 R1 D (.exc ⟨c, fs.reverse, ps.reverse⟩ sl S2)) (PostS.bind post hs fun ds S1 vs F1 R1 H1 _ rx rep1 s1 r1 hs1 post1 => by
    cases hp : pures ds with
    | none => simp only [hp] at post1; exact post1.elim
    | some ps =>
      simp only [hp] at post1
      by_cases hl : ps.length = fs.length
      · rw [if_pos hl] at post1
        have hds := pures_eq hp
        subst hds
        cases hm2 : m (none :: (ps.map fun p => some (Z.D.p p)) ++ [none]) S1 with
        | ok d S2 =>
          rw [hm2] at post1
          cases d with
          | ref n => exact post1.elim
          | p q =>
            cases q with
            | str z => exact ⟨F1, R1, S1, S2, ps, z, RelAll.to_p rx, hl, rep1, s1, r1, hm2, post1⟩
            | _ => exact post1.elim
        | exc x S2 => rw [hm2] at post1; exact post1.elim
        | no => rw [hm2] at post1; exact post1.elim
      · rw [if_neg hl] at post1; exact post1.elim)
  refine PySem.W.callWith_K (h₀ := C.X.base) I.ok.mod.kin T.kC (thn (hA pos pins s I) fun us s1 ⟨vs, H1, I1, r1, q1⟩ => ⟨I1.kIn, ?_⟩) he hpl
  show wpAny _ _ (call (.ref (He.ga C.X.K c)) us) _ _ _
  obtain ⟨F1, R1, S1, S2, ps, z, rx, hl, rep1, sF1, rR1, hm2, post1⟩ := q1
  have hvl := rx.length
  obtain ⟨hp, g, dr, tk, os⟩ := s1
  have hsz : hp.objs.size ≤ hp.objs.size + 1 := Nat.le_succ _
  have hn : H1 (hp.objs.size + 1) = none := I1.hok.fresh hsz
  have kk : ∀ b o, hp.get? b = some o → ((hp.push (PySem.W.kdv_tup us)).push (PySem.HandSPX.excO (He.ga C.X.K c) hp.objs.size)).get? b = some o := fun b o e => Heap.get?_push_of_some _ (Heap.get?_push_of_some _ e)
  have hget : ((hp.push (PySem.W.kdv_tup us)).push (PySem.HandSPX.excO (He.ga C.X.K c) hp.objs.size)).get? (hp.objs.size + 1) = some (PySem.HandSPX.excO (He.ga C.X.K c) hp.objs.size) := by heap_get
  have I2 : Inv C.X pins σ (upd H1 (hp.objs.size + 1) (exo (hp.objs.size + 1) (He.ga C.X.K c) none)) ⟨(hp.push (PySem.W.kdv_tup us)).push (PySem.HandSPX.excO (He.ga C.X.K c) hp.objs.size), g, dr, tk, os⟩ :=
    I1.laid (t' := tk) (a := hp.objs.size + 1) (o := exo (hp.objs.size + 1) (He.ga C.X.K c) none) (h' := (hp.push (PySem.W.kdv_tup us)).push (PySem.HandSPX.excO (He.ga C.X.K c) hp.objs.size)) kk hsz (exo_ok hget)
  have hul : us.length = fs.length := by rw [← Paired.length r1, hvl, hl]
  have hus : us.length ≤ sizeLine := by
    have := SB.l8
    rw [hul, sizeLine_eq]
    omega
  obtain ⟨nm, N', qn, bs, bm, hdct, sn, sub, ab, col, dd, k0, k1', k2, k3, k5, hC, hT⟩ := PySem.W.excInit_of I1.kIn T.qI
  obtain ⟨pl, hev1⟩ := hev (NdefX.envF (supF qual params body scope cc cda) fI ((hp.push (PySem.W.kdv_tup us)).push (PySem.HandSPX.excO (He.ga C.X.K c) hp.objs.size)).objs.size)
  have hnG := rep1.noG hn
  refine wpAny_call (PySem.HandSPX.call_own T.FB hT hC (PySem.W.looks_findIn I1.kIn T.iC) (fun self => PySem.W.bind_fn I1.kIn self T.tI) hus
    (codeAny_mono (sup_run (CX := L2.CX C.X.prog C.X.w) (P := C.X.prog) (w := C.X.w) (K := C.X.K) (mg := C.X.mg) (base := C.X.base) (pl := pl) (E := fun _ _ _ => False) (k := k) (a := hp.objs.size + 1) (ws := vs) (H := upd H1 (hp.objs.size + 1) (exo (hp.objs.size + 1) (He.ga C.X.K c) none))
      (Q := fun v H2 => v = .non ∧ ∃ (d : Addr) (fv : List (Str × V)), H2 (hp.objs.size + 1) = some (exo (hp.objs.size + 1) (He.ga C.X.K c) (some d)) ∧ H2 d = some (exd d fv) ∧ H1 d = none ∧ C.W (.ref (He.ga C.X.K c)) (some d) σ (upd (del H2 (hp.objs.size + 1)) d (.xd fv)))
      (Q1 := fun H1' => ∃ F2 R2, Rep C.K (upd C.G (hp.objs.size + 1) (exo (hp.objs.size + 1) (He.ga C.X.K c) none)) F2 R2 S2 H1' ∧ Same F1 F2 ∧ R1 <+: R2)
      T S hbody hasg hfs SB.l8 SB.ns SB.db (hr.make (He.ga C.X.K c) us []) (I2.env0.make (He.ga C.X.K c) us []) SB.bind (.cons rfl r1) (by rw [hvl, hl]) upd_same ?_ (SB.one _) hev1 (hsw _) ?_) fun r s' hq' => ?_))
  · have hj := aj_cons (SB.arg (C.X.A.under (.builtin "type.__call__" ⟨.ref (He.ga C.X.K c) :: us, []⟩)) C.X.stack ⟨(hp.push (PySem.W.kdv_tup us)).push (PySem.HandSPX.excO (He.ga C.X.K c) hp.objs.size), g, dr, tk, os⟩ (upd H1 (hp.objs.size + 1) (exo (hp.objs.size + 1) (He.ga C.X.K c) none)) (upd C.G (hp.objs.size + 1) (exo (hp.objs.size + 1) (He.ga C.X.K c) none))) aj_nil (he := SB.one _)
    refine hj (none :: (ps.map fun p => some (Z.D.p p)) ++ [none]) S1 _ F1 R1 _ (sup_slots rx hl) (rep1.guardX hn) _ ?_
    have hA2 : aC m aN (none :: (ps.map fun p => some (Z.D.p p)) ++ [none]) S1 = .ok [.p (.str z)] S2 := by
      unfold aC
      rw [hm2]
      rfl
    rw [hA2]
    intro b F' R' H' hb rep' s' r'
    refine ⟨?_, rep'.hasG, F', R', rep', s', r'⟩
    have := hb.length
    rw [this]
    simp
  · intro H1' H2 dx hq hdx hdne hdn e1 e2 e3
    obtain ⟨F2, R2, rep2, s2, r2⟩ := hq
    have hle : hp.objs.size ≤ dx := by
      refine Nat.le_trans ?_ hdx
      show hp.objs.size ≤ ((hp.push (PySem.W.kdv_tup us)).push (PySem.HandSPX.excO (He.ga C.X.K c) hp.objs.size)).objs.size
      rw [Heap.size_push, Heap.size_push]
      omega
    refine ⟨rfl, dx, (fs.zip vs).reverse, e1, e2, I1.hok.fresh hle, ?_⟩
    have hH : upd (del H2 (hp.objs.size + 1)) dx (.xd (fs.zip vs).reverse) = upd (del H1' (hp.objs.size + 1)) dx (.xd (fs.zip vs).reverse) := by
      funext b
      by_cases hb : b = dx
      · subst hb
        rw [upd_same, upd_same]
      · rw [upd_ne hb, upd_ne hb]
        by_cases hb2 : b = hp.objs.size + 1
        · rw [hb2, del_same, del_same]
        · rw [del_ne hb2, del_ne hb2, e3 b hb hb2]
    rw [hH]
    have rep3 := rep2.unguard hnG
    have hdn' : del H1' (hp.objs.size + 1) dx = none := by rw [del_ne hdne]; exact hdn
    have gr := Grow.new (o := .xd (fs.zip vs).reverse) rep3.sub hdn'
    have hzl : fs.length = vs.length := by rw [hvl, hl]
    refine post1 _ (some dx) σ (upd F2 dx (.xd (fs.zip vs).reverse)) R2 _ ⟨rfl, .inr ⟨dx, (fs.zip vs).reverse, rfl, upd_same, ?_, ?_⟩⟩ (hs.mono ((sF1.trans s2).trans gr.sF) (pre_trans rR1 r2)) (rep3.grow gr) (s2.trans gr.sF) r2
    · rw [List.map_reverse, List.map_fst_zip (by omega)]
    · rw [List.map_reverse, List.map_snd_zip (by omega)]
      exact (RpAll.mono (s2.trans gr.sF) _ _ rx).rev
  · cases r with
    | error er =>
      obtain ⟨_, _, _, _, _, _, _, _, _, _, _, _, hE⟩ := (show L2.CX C.X.prog C.X.w C.X.stack _ _ (fun _ _ _ => False) er s' from hq')
      exact hE.elim
    | ok fl =>
      cases fl with
      | ret u =>
        obtain ⟨v, H2, os2, bare2, un2, hok2, rv, ev, d, fv, ea, ed, hd1, q2⟩ := hq'
        subst ev
        obtain ⟨h2, g2, d2, t2, os'⟩ := s'
        exact ⟨rv, mk_end (raises_own T.exC T.tyC) I1 hsz kk un2 hok2 os2 bare2 ea ed hd1 q2⟩
      | next => exact False.elim hq'
      | brk => exact False.elim hq'
      | cont => exact False.elim hq'
end
end Z

namespace Z
open PySem PySem.Spec PyProof.Rows L2
/-! ### C(.., k = v, ..) that may let an exception out -/
def tMakeKS (C : Addr) (n m : Nat) (sp : Sp) (gV : List V → List V → List V) (E : L2.St → XK) (t tk : TA) : TE := fun σ H Q => t σ H fun vs H1 => tk σ H1 fun zs H2 => vs.length = n ∧ zs.length = m ∧ ∀ x dx, H2 x = none → H2 dx = none → dx ≠ x →
  sp (gV (.ref x :: vs) zs) (upd (upd H2 dx (.own x)) x (.ins C dx [])) (fun v H3 => v = .non ∧ Q (.ref x) H3) (E σ)
section
variable {X : Cx} {CX : CXT} {k n : Nat} {f C : Addr} {fd : FuncData} {ps ks : List Str} {sp : Sp} {x : Str} {p pos : Pos} {e : Expr} {es : List Expr} {kws : List Keyword} {t tk : TA} {g : List Value → List Value → List Value} {gV : List V → List V → List V}
theorem run_makeKX {E : XK} {pins : List (Addr × Obj)} {σ : L2.St} {H : Hp} {s : Shared} {Q : VK} {us ws : List Value} {vs zs : List V} (M : L2.Mk X.K C f) (F : FnOk X.prog X.w X.K X.mg X.base CX k f fd ps sp) (hr : Room (k + 1) X.A) (hb : KBn X.K fd ps (n + 1) ks g gV) (hx : PassesAt CX X σ E)
    (I : Inv X pins σ H s) (r : Vals vs us) (rz : Vals zs ws) (l1 : vs.length = n) (l2 : zs.length = ks.length)
    (h : ∀ x dx, H x = none → H dx = none → dx ≠ x → sp (gV (.ref x :: vs) zs) (upd (upd H dx (.own x)) x (.ins C dx [])) (fun v H2 => v = .non ∧ Q (.ref x) H2) E) :
    wpAny (model X.prog X.w) X.A (call (.ref C) us (ks.zip ws)) (EP X pins σ Q) X.xe s := by
  have hq := h (s.heap.objs.size + 1) s.heap.objs.size (I.hok.fresh (Nat.le_succ _)) (I.hok.fresh (Nat.le_refl _)) (Nat.ne_of_lt (Nat.lt_succ_self _))
  have I2 := Inv.made (C := C) I
  have r1 : Vals (V.ref (s.heap.objs.size + 1) :: vs) (Value.ref (s.heap.objs.size + 1) :: us) := .cons rfl r
  have r2 := hb.rel r1 rz
  have n1 : (Value.ref (s.heap.objs.size + 1) :: us).length = n + 1 := by
    rw [List.length_cons, ← r.length, l1]
  refine wpAny_call (make_map (f := f) I.kIn M.makes M.init (beq_iff_eq.mp M.fn) (codeAny_mono (F.run _ X.stack _ _ ⟨Value.ref (s.heap.objs.size + 1) :: us, ks.zip ws⟩ (g (Value.ref (s.heap.objs.size + 1) :: us) ws) _ _ E (hr.make C us (ks.zip ws))
    (I2.env0.make C us (ks.zip ws)) (hb.to _ (Value.ref (s.heap.objs.size + 1) :: us) ws I2.kIn n1 (rz.length.symm.trans l2)) r2 hq) fun r s' hq' => ?_))
  cases r with
  | error e => exact hx pins _ _ e s' I2 hq'
  | ok fl =>
    cases fl with
    | ret u =>
      obtain ⟨v, H', I3, rv, ev, q3⟩ := I2.after hq'
      subst ev
      exact ⟨rv, ⟨V.ref (s.heap.objs.size + 1), H', I3, rfl, q3⟩⟩
    | next => exact False.elim hq'
    | brk => exact False.elim hq'
    | cont => exact False.elim hq'
theorem pe_makeKX {E : L2.St → XK} (M : L2.Mk X.K C f) (F : FnOk X.prog X.w X.K X.mg X.base CX k f fd ps sp) (hr : Room (k + 1) X.A) (hg : Gl X x) (hm : X.mg x = some (.ref C)) (hb : KBn X.K fd ps (n + 1) ks g gV) (hx : ∀ σ, PassesAt CX X σ (E σ)) (ha : PA X (e :: es) t) (hkw : PK X kws tk)
    (hall : (backToKw pos (keywordEach kws X.env)).all (·.1.isSome) = true := by rfl) (hks : (backToKw pos (keywordEach kws X.env)).filterMap (·.1) = ks := by rfl) (hdb : (x == ("__debug__" : Str)) = false := by decide)
    (he : starEach (e :: es) X.env = (false, eval e X.env) :: starEach es X.env := by rfl) (hpl : ((backTo pos (starEach (e :: es) X.env)).any (·.1) || (backToKw pos (keywordEach kws X.env)).any (·.1.isNone)) = false := by rfl) :
    PE X (.Call (.Name x p) (e :: es) kws pos) (tMakeKS C n ks.length sp gV E t tk) := by
  refine ⟨fun pins s σ H Q I h => ?_⟩
  refine wpAny_Call_Name_kw (ld_glob I hg hm ?_ hdb)
  refine PySem.W.callWith_KW (h₀ := X.base) I.ok.mod.kin M.kp hall (thn (ha.run pos pins s σ H _ I h) fun us s1 ⟨vs, H1, I1, r, q⟩ => ?_) hpl he
  refine thn (hkw.run pos pins s1 σ H1 _ I1 q) fun ws s2 ⟨zs, H2, I2, rz, l1, l2, q2⟩ => ⟨I2.kIn, ?_⟩
  rw [hks]
  exact run_makeKX M F hr hb (hx σ) I2 r rz l1 l2 q2
end
section
variable {C : Kx} {e : Expr} {es : List Expr} {kws : List Keyword} {pos p kpos : Pos} {x : Str} {ma mk : MA} {fn : Fn} {k : Nat} {dfl : List P} {f : Addr}
theorem ej_mkKX {n m nm : Nat} {ks : List Str} (hM : L2.Mk C.X.K (He.ga C.X.K x) f) (hm : C.X.mg x = some (.ref (He.ga C.X.K x))) (hF : C.formK k f fn (n + 1) ks dfl) (hr : Room (k + 1) C.X.A) (h2 : Aj C ma (e :: es)) (h3 : Kj C mk kws) (hl : ks.length = m := by rfl) (hnm : nm = n + m := by rfl) (hg : Gl C.X x := by rfl)
    (hall : ∀ pos : Pos, (backToKw pos (keywordEach kws C.X.env)).all (·.1.isSome) = true := by intro _; rfl) (hks : ∀ pos : Pos, (backToKw pos (keywordEach kws C.X.env)).filterMap (·.1) = ks := by intro _; rfl) (hdb : (x == ("__debug__" : Str)) = false := by decide)
    (he : Se C e es := by exact se_of rfl) (hpl : ∀ pos : Pos, ((backTo pos (starEach (e :: es) C.X.env)).any (·.1) || (backToKw pos (keywordEach kws C.X.env)).any (·.1.isNone)) = false := by intro _; rfl) :
    Ej C (eMake x nm dfl fn (maK2 n m ma mk)) (.Call (.Name x p) (e :: es) kws pos) := .mk fun sl S σ F R H hs hr' Q post => by
  subst hl hnm
  obtain ⟨fd, ps, g, dvs, g1, g2, g4⟩ := hF
  refine ED.of (pe_makeKX (n := n) (E := WE C.W) hM g1 hr hg hm g2 (fun σ => passAt C.tk σ) pa_d pk_d (hall pos) (hks pos) hdb he (hpl pos)) ?_
  have := make_read (C := C) (fn := fn) (n := n + ks.length) (cn := x) (dfl := dfl) (E := WE C.W) (sp := spF C.K (n + 1 + ks.length + dfl.length) fn) (t := fun σ H Q' => AD C.X (e :: es) σ H fun vs H1 => KD C.X kws σ H1 fun zs H2 => vs.length = n ∧ zs.length = ks.length ∧ Q' (vs ++ zs) H2)
    (ma := maK2 n ks.length ma mk) rfl (by congr 1; omega) g4 (fun sl S σ F R H hs hr Q post => ?_) hs hr' post
  · exact this
  · unfold maK2 at post
    refine h2 sl S σ F R H hs hr _ (Post.bind post fun ds S1 vs F1 R1 H1 _ rd rep1 s1 r1 post1 => ?_)
    by_cases hl : ds.length = n
    · rw [if_pos hl] at post1
      refine h3.run sl S1 σ F1 R1 H1 (hs.mono s1 r1) rep1 _ (Post.bind post1 fun es S2 zs F2 R2 H2 _ re rep2 s2 r2 post2 => ?_)
      by_cases hl2 : es.length = ks.length
      · rw [if_pos hl2] at post2
        exact ⟨by rw [rd.length, hl], by rw [re.length, hl2], post2.okv (RelAll.append (rd.mono s2 r2) re) rep2⟩
      · rw [if_neg hl2] at post2; exact post2.elim
    · rw [if_neg hl] at post1; exact post1.elim
end
/-! ### the head: own exception classes -/
def supO (K : PySem.W.Frag) (a : Addr) : He.FnW := match K.lookup a with
  | some ⟨_, _, .func fd, _⟩ => some (fd.name, fd.qualname, fd.params, fd.body, fd.scope, fd.globals, [], fd.builtins)
  | _ => none
def supCl (K : PySem.W.Frag) (a : Addr) : Addr := match K.lookup a with
  | some ⟨_, _, .func fd, _⟩ => (match fd.closure with | [(_, c)] => c | _ => 0)
  | _ => 0
def supCo (K : PySem.W.Frag) (a : Addr) : Addr := match K.lookup a with
  | some ⟨_, _, .func fd, _⟩ => (match fd.code with | .ref c => c | _ => 0)
  | _ => 0
def isNoneB : Value → Bool
  | .none => true
  | _ => false
theorem isNoneB_ok {v : Value} (h : isNoneB v = true) : v = .none := by cases v <;> first | rfl | cases h
def isRefB (a : Addr) : Value → Bool
  | .ref c => decide (c = a)
  | _ => false
theorem isRefB_ok {a : Addr} {v : Value} (h : isRefB a v = true) : v = .ref a := by
  cases v with
  | ref c => rw [of_decide_eq_true (show decide (c = a) = true from h)]
  | _ => cases h
def supFnB (K : PySem.W.Frag) (a : Addr) (qual : Str) : Bool := match K.lookup a with
  | some ⟨_, _, .func fd, _⟩ => decide (fd.closure = [(zC, supCl K a)]) && (isNoneB fd.defaults && (isRefB (supCo K a) fd.code && PySem.W.codeIn K fd.code qual))
  | _ => false
def supCdB (K : PySem.W.Frag) (cda : Addr) (file : Str) : Bool := match K.lookup cda with
  | some ⟨_, _, .fields vs, _⟩ => (match (vs[2]? : Option Value) with | some (Value.str z _) => file == z | _ => false)
  | _ => false
def supCeB (K : PySem.W.Frag) (cc C : Addr) : Bool := match K.lookup cc with
  | some ⟨_, _, .cell (some (.ref D)), _⟩ => decide (D = C)
  | _ => false
def isTyB (o : Option Value) (t : String) : Bool := match o with
  | some (.type n) => decide (n = t)
  | _ => false
theorem isTyB_ok {o : Option Value} {t : String} (h : isTyB o t = true) : o = some (.type t) := by
  unfold isTyB at h
  split at h
  · rw [of_decide_eq_true h]
  · cases h
/-- all that is to be seen of the class C (fI: its __init__) -/
def supB (K : PySem.W.Frag) (C : Addr) (B newId initId : String) (tl : List Value) (qual file : Str) (fs : List Str) : Bool :=
  supFnB K (He.ma K C "__init__") qual && (supCdB K (supCo K (He.ma K C "__init__")) file && (supCeB K (supCl K (He.ma K C "__init__")) C && (PySem.W.excInitIn K C tl newId && (PySem.W.excOver K C tl && (PySem.W.hasDictIn K C && (He.eqO (PySem.W.findIn K (.ref C) "__setattr__") (some (some (.builtin "object.__setattr__"))) && (decide (PySem.W.subIn K (.ref C) (.type "BaseException") = some true) &&
  (isTyB (PySem.W.typeIn K (.ref C)) "type" && (PySem.W.keepIn K (.ref C) && (He.eqO (PySem.W.findIn K (.ref C) "__init__") (some (some (.ref (He.ma K C "__init__")))) && (isTyB (PySem.W.typeIn K (.ref (He.ma K C "__init__"))) "function" && (He.eqO (PySem.W.ks_superIn K C C "__init__") (some (some (.builtin initId))) && (decide (PySem.W.subIn K (.ref C) (.type B) = some true) &&
  (He.eqO (PySem.W.nsIn K cStatics "thirdparty.any") (some none) && (decide (PySem.W.mroIn K C (.ref C) = some true) && fs.all fun f => He.eqO (PySem.W.findIn K (.ref C) f) (some none))))))))))))))))
theorem exK_of {K : PySem.W.Frag} {C : Addr} {B : String} {tl : List Value} (SF : StoreFacts B tl "object.__setattr__" "object") (h : PySem.W.excOver K C tl = true) (hd : PySem.W.hasDictIn K C = true) (sa : PySem.W.findIn K (.ref C) "__setattr__" = some (some (.builtin "object.__setattr__"))) : ExK K C := by
  obtain ⟨cd, hc, h2⟩ := PySem.W.any_some h
  obtain ⟨cd', hc', h3⟩ := PySem.W.any_some hd
  rw [hc] at hc'
  cases hc'
  obtain ⟨bm, hm, ht⟩ : ∃ bm, cd.mro = .ref C :: bm ∧ PySem.W.excTail tl bm = true := by
    revert h2
    split
    · rename_i C' bm e
      intro h2
      simp only [Bool.and_eq_true, beq_iff_eq] at h2
      obtain ⟨rfl, h2⟩ := h2
      exact ⟨bm, e, h2⟩
    · intro h2; cases h2
  refine ⟨⟨cd, hc, h3, by rw [hm]; rfl, ?_, fun x => ?_⟩, sa⟩
  · rw [hm, List.contains_cons, PySem.W.excTail_contains "object" bm ht, SF.hasOwner, Bool.or_true]
  · rw [hm, refuseLoop_ref]
    exact PySem.W.excTail_pass (.ref x) (SF.passes (.ref x)) bm ht
theorem supC_of {K : PySem.W.Frag} {pg : Program} {C : Addr} {B newId initId : String} {tl : List Value} {qual file : Str} {params : Arguments} {body : List Stmt} {scope : Scope} {fs : List Str} (FB : ExcBaseFacts B newId initId tl) (KF : PySem.W.KxsFacts B initId) (SF : StoreFacts B tl "object.__setattr__" "object") (hf : pg.main.file = file)
    (hO : supO K (He.ma K C "__init__") = (some (("__init__" : Str), qual, params, FuncBody.stmts body, scope, mainGlobals, [], builtinsNs) : He.FnW)) (hB : supB K C B newId initId tl qual file fs = true) : SupC K pg C (He.ma K C "__init__") (supCl K (He.ma K C "__init__")) (supCo K (He.ma K C "__init__")) B newId initId tl qual params body scope fs := by
  obtain ⟨h1, h⟩ := He.ba hB
  obtain ⟨h2, h⟩ := He.ba h
  obtain ⟨h3, h⟩ := He.ba h
  obtain ⟨h4, h⟩ := He.ba h
  obtain ⟨h5, h⟩ := He.ba h
  obtain ⟨h6, h⟩ := He.ba h
  obtain ⟨h7, h⟩ := He.ba h
  obtain ⟨h8, h⟩ := He.ba h
  obtain ⟨h9, h⟩ := He.ba h
  obtain ⟨h10, h⟩ := He.ba h
  obtain ⟨h11, h⟩ := He.ba h
  obtain ⟨h12, h⟩ := He.ba h
  obtain ⟨h13, h⟩ := He.ba h
  obtain ⟨h14, h⟩ := He.ba h
  obtain ⟨h15, h⟩ := He.ba h
  obtain ⟨h16, h17⟩ := He.ba h
  have hfn : (∃ oc od kV doc pm an ct osl, K.lookup (He.ma K C "__init__") = some ⟨oc, od, .func (supFd qual params body scope (supCl K (He.ma K C "__init__")) (supCo K (He.ma K C "__init__")) kV doc pm an ct), osl⟩) ∧ PySem.W.codeIn K (.ref (supCo K (He.ma K C "__init__"))) qual = true := by
    unfold supFnB at h1
    unfold supO at hO
    generalize supCl K (He.ma K C "__init__") = cc at *
    generalize supCo K (He.ma K C "__init__") = cda at *
    cases q : K.lookup (He.ma K C "__init__") with
    | none => rw [q] at h1; cases h1
    | some o =>
      obtain ⟨oc, od, dt, osl⟩ := o
      rw [q] at h1 hO
      cases dt with
      | func fd =>
        obtain ⟨n1, n2, n3, n4, n5, n6, n7, n8, n9, n10, n11, n12, n13, n14, n15⟩ := fd
        have e2 : (some (n1, n2, n3, n4, n5, n6, [], n15) : He.FnW) = some (("__init__" : Str), qual, params, FuncBody.stmts body, scope, mainGlobals, [], builtinsNs) := hO
        simp only [Option.some.injEq, Prod.mk.injEq] at e2
        obtain ⟨e1, e2, e3, e4, e5, e6, _, e8⟩ := e2
        subst e1 e2 e3 e4 e5 e6 e8
        obtain ⟨k1, k⟩ := He.ba h1
        obtain ⟨k2, k⟩ := He.ba k
        obtain ⟨k3, k4⟩ := He.ba k
        have c1 : n7 = [(zC, cc)] := of_decide_eq_true k1
        have c2 : n8 = .none := isNoneB_ok k2
        have c3 : n13 = .ref cda := isRefB_ok k3
        subst c1 c2 c3
        exact ⟨⟨oc, od, n9, n10, n11, n12, n14, osl, rfl⟩, k4⟩
      | _ => cases h1
  have hcd : ∃ ccl cdd vs ccs file tf, K.lookup (supCo K (He.ma K C "__init__")) = some ⟨ccl, cdd, .fields vs, ccs⟩ ∧ vs[2]? = some (.str file tf) ∧ ((pg.main.file : Str) == file) = true := by
    unfold supCdB at h2
    split at h2
    · rename_i c d vs sl q
      split at h2
      · rename_i z t e
        exact ⟨c, d, vs, sl, z, t, q, e, by rw [hf]; exact h2⟩
      · cases h2
    · cases h2
  have hce : ∃ cl cld csl, K.lookup (supCl K (He.ma K C "__init__")) = some ⟨cl, cld, .cell (some (.ref C)), csl⟩ := by
    unfold supCeB at h3
    split at h3
    · rename_i c d D sl q
      have := of_decide_eq_true h3
      subst this
      exact ⟨c, d, sl, q⟩
    · cases h3
  exact ⟨FB, KF, h4, exK_of SF h5 h6 (He.eqO_ok h7), of_decide_eq_true h8, isTyB_ok h9, h10, He.eqO_ok h11, isTyB_ok h12, hfn.1, hfn.2, hcd, hce, He.eqO_ok h13, of_decide_eq_true h14, He.eqO_ok h15, of_decide_eq_true h16, fun f hf => He.eqO_ok (List.all_eq_true.mp h17 f hf)⟩
/-! the hook -/
abbrev AlX : Type := AlZ × List He.FnW
def obX (fa : List He.Fa) (ts : List He.Tab) (fn : List He5.DefA) (ex : PySem.W.Frag → Bool) (sn : List He5.DefA) (K : PySem.W.Frag) : AlX := (obZ fa ts fn ex K, sn.map fun d => supO K (d.at_ K))
def valX (ts : List He.Tab) (fn sn : List He5.DefA) (w : World) : AlX := (valZ ts fn w, sn.map He5.DefA.val)
def SaysX (fa : List He.Fa) (ts : List He.Tab) (fn : List He5.DefA) (ex : PySem.W.Frag → Bool) (sn : List He5.DefA) (w : World) (K : PySem.W.Frag) : Prop := obX fa ts fn ex sn K = valX ts fn sn w
def obsX (n : Nat) (fa : List He.Fa) (ts : List He.Tab) (fn : List He5.DefA) (ex : PySem.W.Frag → Bool) (sn : List He5.DefA) (g : Addr → Option Obj) : AlX := obX fa ts fn ex sn (He.frT g (asY g n))
def hookX (n : Nat) (fa : List He.Fa) (ts : List He.Tab) (fn : List He5.DefA) (ex : PySem.W.Frag → Bool) (sn : List He5.DefA) : PySem.W.Hook where
  α := AlX
  obs := fun s => obsX n fa ts fn ex sn s.heap.get?
  val := fun w => valX ts fn sn w
  says := fun w h => ∃ K : PySem.W.Frag, K.In h ∧ SaysX fa ts fn ex sn w K
  of := fun _ _ e => ⟨_, He.frT_in, e⟩
  keeps := fun _ _ _ ⟨K, hK, c⟩ k => ⟨K, PySem.W.Frag.In.keeps hK k, c⟩
theorem obsX_eq {n : Nat} {fa : List He.Fa} {ts : List He.Tab} {fn : List He5.DefA} {ex : PySem.W.Frag → Bool} {sn : List He5.DefA} {g : Addr → Option Obj} {s : Shared} (h : ∀ a, g a = s.heap.get? a) : obsX n fa ts fn ex sn g = (hookX n fa ts fn ex sn).obs s := by
  have e : g = s.heap.get? := funext h
  rw [e] <;> rfl
section
variable {fa : List He.Fa} {ts : List He.Tab} {fn sn : List He5.DefA} {ex : PySem.W.Frag → Bool} {w : World} {K : PySem.W.Frag}
theorem SaysX.z (c : SaysX fa ts fn ex sn w K) : SaysZ fa ts fn ex w K := congrArg (fun z : AlX => z.1) c
theorem SaysX.sup (c : SaysX fa ts fn ex sn w K) (i : Nat) {d : He5.DefA} (h : sn[i]? = some d := by rfl) : supO K (d.at_ K) = d.val := by
  have e : sn.map (fun d => supO K (d.at_ K)) = sn.map He5.DefA.val := congrArg (fun z : AlX => z.2) c
  have e2 : (sn.map fun d => supO K (d.at_ K))[i]? = (sn.map He5.DefA.val)[i]? := by rw [e]
  rw [List.getElem?_map, List.getElem?_map, h] at e2
  exact Option.some.inj e2
end
end Z

namespace Z
open PySem PySem.Spec PyProof.Rows L2
/-! ### {x} in a text with holes, x a tuple or a list too, where no text is under way -/
def fmtG : P → Option P
  | .tup ps => if shOk (.tup ps) = true then some (.str (py (.tup ps)).shown) else none
  | .lst ps => if shOk (.lst ps) = true then some (.str (py (.lst ps)).shown) else none
  | p => fmtP p
def tFmtG (K : PySem.W.Frag) (te : TE) : TE := fun σ H Q => te σ H fun x H1 => (∃ y : Str, x = .str y ∧ y.length ≤ sizeLine ∧ Q (.str y) H1) ∨ (∃ i : Int, x = .int i ∧ i.natAbs.log2 < 1920 ∧ Q (.str (toString i)) H1) ∨ (x = .non ∧ Q (.str "None") H1) ∨ (∃ b : Bool, x = .bl b ∧ Q (.str (if b then "True" else "False" : String)) H1) ∨
  ∃ (a : Addr) (d : PyData), x = .ref a ∧ Dp K H1 x d ∧ d.hasDict = false ∧ d.depth ≤ 100 ∧ d.showable = true ∧ d.shown.length ≤ 1000000 ∧ Q (.str d.shown) H1
theorem pe_fmtG {X : Cx} {e : Expr} {te : TE} {pos : Pos} (hg : X.A.guards = some []) (hu : X.A.units + 200 < cLine) (he : PE X e te) : PE X (.FormattedValue e (-1) none pos) (tFmtG X.K te) := by
  refine ⟨fun pins s σ H Q I h => ?_⟩
  refine wpAny_FormattedValue_plain (thn (he.run pins s σ H _ I h) fun v s1 hv => ?_)
  obtain ⟨x, H1, I1, r1, q⟩ := hv
  rcases q with ⟨y, rfl, hz, q⟩ | ⟨i, rfl, hz, q⟩ | ⟨rfl, q⟩ | ⟨b, rfl, q⟩ | ⟨a, d, rfl, hd, nd, hdp, hsh, hln, q⟩
  · obtain ⟨t, rfl⟩ := r1
    exact wpAny_formatField_str ⟨.str y, H1, I1, ⟨t, rfl⟩, q⟩ ⟨.str y, H1, I1.tok _, ⟨_, rfl⟩, q⟩ hz
  · obtain ⟨t, rfl⟩ := r1
    exact wpAny_formatField_int hz ⟨.str (toString i), H1, I1.tok _, ⟨_, rfl⟩, q⟩
  · cases r1
    exact wpAny_formatField_none ⟨.str "None", H1, I1.tok _, ⟨_, rfl⟩, q⟩
  · cases r1
    exact wpAny_formatField_bool ⟨.str (if b then "True" else "False" : String), H1, I1.tok _, ⟨_, by cases b <;> rfl⟩, q⟩
  · have hz : d.shown.length ≤ sizeLine := Nat.le_trans hln (by rw [sizeLine_eq]; omega)
    obtain ⟨as, rd⟩ := Dp.reads I1 d _ _ hd r1
    cases (show v = Value.ref a from r1)
    exact formatField_of_reads rd hsh (PyData.noDict_hsm nd) hg (by omega) (fun _ _ e => e) (fun h' u tk hk => ⟨.str d.shown, H1, I1.kept hk, ⟨u, rfl⟩, q⟩) hz
section
variable {C : Kx} {e : Expr} {me : M} {pos : Pos}
theorem ej_fmtG (hG : C.X.A.guards = some []) (hu : C.X.A.units + 200 < cLine) (h : Ej C me e) : Ej C (eU fmtG me) (.FormattedValue e (-1) none pos) := .mk fun sl S σ F R H hs hr Q post =>
  ED.of (pe_fmtG hG hu pe_d) (h sl S σ F R H hs hr _ (Post.bind post fun d S1 v F1 R1 H1 _ rv rep1 s1 r1 post1 => by
    unfold lift1 at post1
    cases hv : view S1 d with
    | none => rw [hv] at post1; exact post1.elim
    | some q =>
      rw [hv] at post1
      have vw := view_vw rv rep1 hv
      cases q with
      | str y =>
        cases vw.str
        simp only [fmtG, fmtP] at post1
        by_cases hc : y.length ≤ sizeLine
        · rw [if_pos hc] at post1
          exact .inl ⟨y, rfl, hc, post1.okv (show RelD C.K F1 R1 (.str y) (.p (.str y)) from .str y) rep1⟩
        · rw [if_neg hc] at post1; exact post1.elim
      | int i =>
        cases vw.int
        simp only [fmtG, fmtP] at post1
        by_cases hc : i.natAbs.log2 < 1920
        · rw [if_pos hc] at post1
          exact .inr (.inl ⟨i, rfl, hc, post1.okv (show RelD C.K F1 R1 (.str (toString i)) (.p (.str (toString i))) from .str _) rep1⟩)
        · rw [if_neg hc] at post1; exact post1.elim
      | non =>
        cases vw.non
        exact .inr (.inr (.inl ⟨rfl, post1.okv (show RelD C.K F1 R1 (.str "None") (.p (.str "None")) from .str _) rep1⟩))
      | bl b =>
        cases vw.bl
        exact .inr (.inr (.inr (.inl ⟨b, rfl, post1.okv (show RelD C.K F1 R1 (.str (if b then "True" else "False" : String)) (.p (.str (if b then "True" else "False" : String))) from .str _) rep1⟩)))
      | tup ps =>
        simp only [fmtG] at post1
        by_cases hc : shOk (.tup ps) = true
        · rw [if_pos hc] at post1
          have hc2 := hc
          unfold shOk at hc2
          simp only [Bool.and_eq_true, decide_eq_true_eq] at hc2
          obtain ⟨h1, h2, h3⟩ := hc2
          obtain ⟨a, vs, rfl, _, _⟩ := vw.tupE
          exact .inr (.inr (.inr (.inr ⟨a, _, rfl, rp_dp dpt _ _ h1 (vw.rd rep1.sub), py_noDict _, Nat.le_trans (fin_lay dpt _ h1).2 (by decide), h2, h3, post1.okv (show RelD C.K F1 R1 (.str _) (.p (.str _)) from .str _) rep1⟩)))
        · rw [if_neg hc] at post1; exact post1.elim
      | lst ps =>
        simp only [fmtG] at post1
        by_cases hc : shOk (.lst ps) = true
        · rw [if_pos hc] at post1
          have hc2 := hc
          unfold shOk at hc2
          simp only [Bool.and_eq_true, decide_eq_true_eq] at hc2
          obtain ⟨h1, h2, h3⟩ := hc2
          obtain ⟨a, vs, rfl, _, _⟩ := vw.lstE rep1.sub
          exact .inr (.inr (.inr (.inr ⟨a, _, rfl, rp_dp dpt _ _ h1 (vw.rd rep1.sub), py_noDict _, Nat.le_trans (fin_lay dpt _ h1).2 (by decide), h2, h3, post1.okv (show RelD C.K F1 R1 (.str _) (.p (.str _)) from .str _) rep1⟩)))
        · rw [if_neg hc] at post1; exact post1.elim
      | _ => exact post1.elim))
end
end Z

namespace Z
open PySem PySem.Spec PyProof.Rows L2
/-! ### X(e, ..) as a value, X an own exception class with such an __init__ -/
def eMkE (c : Str) (fs : List Str) (m : M) (ma : MA) : M := fun sl S => (ma sl S).bind fun ds S1 => match pures ds with
  | some ps => if ps.length = fs.length then match m (none :: (ps.map fun p => some (Z.D.p p)) ++ [none]) S1 with
      | .ok (.p (.str _)) S2 => .ok (.p (.exv c fs.reverse ps.reverse)) S2
      | _ => .no
    else .no
  | none => .no
/-- the text's part of such a class, where no text is under way -/
structure SupE (pg : Program) (body : List Stmt) (arg : Expr) (fs : List Str) (qual : Str) (params : Arguments) (scope : Scope) (m : M) (K : PySem.W.Frag) (mg : Str → Option Value) (base : Heap) (w : World) (CX : CXT) (cc cda fI : Addr) : Prop where
  shape : ∃ p0 p1 p2 p3 p4 rest f0 fs', body = .Expr (.Call (.Attribute (.Call (.Name "super" p0) [] [] p1) "__init__" p2) [arg] [] p3) p4 :: rest ∧ Asgs rest fs ∧ fs = f0 :: fs' ∧
    (∀ env : Env, ∃ pl : Sem Bool, eval (.Call (.Attribute (.Call (.Name "super" p0) [] [] p1) "__init__" p2) [arg] [] p3) env = (do
      let ov ← attributeBase (.Call (.Name "super" p0) [] [] p1) "__init__" env (eval (.Call (.Name "super" p0) [] [] p1) env)
      standAt p2.atName
      let (f, first) ← holding [ov] (getMethod ov "__init__" pl)
      callWith p3 f first (backTo p3 (starEach [arg] env)) [])) ∧
    (∀ env : Env, swapsWith (.Call (.Attribute (.Call (.Name "super" p0) [] [] p1) "__init__" p2) [arg] [] p3) none p4.line env = pure false)
  l8 : fs.length ≤ 800
  ns : NdefX.NScope (zS :: fs ++ [zC]) (zS :: fs) [zC] scope
  db : ∀ f ∈ zS :: fs, (f == ("__debug__" : Str)) = false ∧ (f == ("__classdict__" : Str)) = false
  bind : ∀ (kV doc pm : Value) (an : Option Addr) (ct : Value) (us : List Value), us.length = fs.length + 1 → bindArgs (supFd qual params body scope cc cda kV doc pm an ct) ⟨us, []⟩ = pure ((zS :: fs).zip us)
  one : ∀ env : Env, starEach [arg] env = (false, eval arg env) :: starEach [] env
  arg : ∀ (A : Around) (outer : List Env) (s : Shared) (H G : Hp), (NdefX.ncx CX pg w K mg base (zS :: fs ++ [zC]) (supF qual params body scope cc cda) fI A outer s H (fun _ _ _ => False)).A.guards = some [] → (NdefX.ncx CX pg w K mg base (zS :: fs ++ [zC]) (supF qual params body scope cc cda) fI A outer s H (fun _ _ _ => False)).A.units + 200 < cLine → Ej ⟨NdefX.ncx CX pg w K mg base (zS :: fs ++ [zC]) (supF qual params body scope cc cda) fI A outer s H (fun _ _ _ => False), fun _ _ _ _ => False, takes0, G, Pin.nil⟩ m arg
section
variable {C : Kx} {x c : Str} {fs : List Str} {m : M} {ma : MA} {e arg : Expr} {es : List Expr} {p pos pos' : Pos} {cc cda fI : Addr} {B newId initId : String} {tl : List Value} {qual : Str} {params : Arguments} {body : List Stmt} {scope : Scope} {k : Nat}
theorem ej_mkE (hG : C.X.A.guards = some []) (T : SupC C.X.K C.X.prog (He.ga C.X.K c) fI cc cda B newId initId tl qual params body scope fs) (S : SupS C.X.prog C.X.mg params scope) (SB : SupE C.X.prog body arg fs qual params scope m C.X.K C.X.mg C.X.base C.X.w (L2.CX C.X.prog C.X.w) cc cda fI)
    (hr : Room (k + 2) C.X.A) (hm : C.X.mg x = some (.ref (He.ga C.X.K c))) (ha : Aj C ma (e :: es)) (hg : Gl C.X x := by rfl) (hdb : (x == ("__debug__" : Str)) = false := by decide) (he : Se C e es := by exact se_of rfl) (hpl : Pl C es pos := by exact pl_of rfl) :
    Ej C (eMkE c fs m ma) (.Call (.Name x p) (e :: es) [] pos) := .mk fun sl S0 σ F R H hs hr' Q0 post => by
  unfold eMkE at post
  intro pins s I
  obtain ⟨p0, p1, p2, p3, p4, rest, f0, fs', hbody, hasg, hfs, hev, hsw⟩ := SB.shape
  refine wpAny_Call_Name_kw (ld_glob I hg hm ?_ hdb)
  have hA := ha sl S0 σ F R H hs hr' (fun vs H1 => ∃ F1 R1 S1 S2 ps z, RpAll C.K F1 vs ps ∧ ps.length = fs.length ∧ Rep C.K C.G F1 R1 S1 H1 ∧ Same F F1 ∧ R <+: R1 ∧ m (none :: (ps.map fun p => some (Z.D.p p)) ++ [none]) S1 = .ok (.p (.str z)) S2 ∧ Post C σ F1 R1 (RelD C.K) Q0 (.ok (.p (.exv c fs.reverse ps.reverse)) S2)) (Post.bind post fun ds S1 vs F1 R1 H1 _ rx rep1 s1 r1 post1 => by
    cases hp : pures ds with
    | none => simp only [hp] at post1; exact post1.elim
    | some ps =>
      simp only [hp] at post1
      by_cases hl : ps.length = fs.length
      · rw [if_pos hl] at post1
        have hds := pures_eq hp
        subst hds
        cases hm2 : m (none :: (ps.map fun p => some (Z.D.p p)) ++ [none]) S1 with
        | ok d S2 =>
          rw [hm2] at post1
          cases d with
          | ref n => exact post1.elim
          | p q =>
            cases q with
            | str z => exact ⟨F1, R1, S1, S2, ps, z, RelAll.to_p rx, hl, rep1, s1, r1, hm2, post1⟩
            | _ => exact post1.elim
        | exc x S2 => rw [hm2] at post1; exact post1.elim
        | no => rw [hm2] at post1; exact post1.elim
      · rw [if_neg hl] at post1; exact post1.elim)
  refine PySem.W.callWith_K (h₀ := C.X.base) I.ok.mod.kin T.kC (thn (hA pos pins s I) fun us s1 ⟨vs, H1, I1, r1, q1⟩ => ⟨I1.kIn, ?_⟩) he hpl
  show wpAny _ _ (call (.ref (He.ga C.X.K c)) us) _ _ _
  obtain ⟨F1, R1, S1, S2, ps, z, rx, hl, rep1, sF1, rR1, hm2, post1⟩ := q1
  have hvl := rx.length
  obtain ⟨hp, g, dr, tk, os⟩ := s1
  have hsz : hp.objs.size ≤ hp.objs.size + 1 := Nat.le_succ _
  have hn : H1 (hp.objs.size + 1) = none := I1.hok.fresh hsz
  have kk : ∀ b o, hp.get? b = some o → ((hp.push (PySem.W.kdv_tup us)).push (PySem.HandSPX.excO (He.ga C.X.K c) hp.objs.size)).get? b = some o := fun b o e => Heap.get?_push_of_some _ (Heap.get?_push_of_some _ e)
  have hget : ((hp.push (PySem.W.kdv_tup us)).push (PySem.HandSPX.excO (He.ga C.X.K c) hp.objs.size)).get? (hp.objs.size + 1) = some (PySem.HandSPX.excO (He.ga C.X.K c) hp.objs.size) := by heap_get
  have I2 : Inv C.X pins σ (upd H1 (hp.objs.size + 1) (exo (hp.objs.size + 1) (He.ga C.X.K c) none)) ⟨(hp.push (PySem.W.kdv_tup us)).push (PySem.HandSPX.excO (He.ga C.X.K c) hp.objs.size), g, dr, tk, os⟩ :=
    I1.laid (t' := tk) (a := hp.objs.size + 1) (o := exo (hp.objs.size + 1) (He.ga C.X.K c) none) (h' := (hp.push (PySem.W.kdv_tup us)).push (PySem.HandSPX.excO (He.ga C.X.K c) hp.objs.size)) kk hsz (exo_ok hget)
  have hul : us.length = fs.length := by rw [← Paired.length r1, hvl, hl]
  have hus : us.length ≤ sizeLine := by
    have := SB.l8
    rw [hul, sizeLine_eq]
    omega
  obtain ⟨nm, N', qn, bs, bm, hdct, sn, sub, ab, col, dd, k0, k1', k2, k3, k5, hC, hT⟩ := PySem.W.excInit_of I1.kIn T.qI
  obtain ⟨pl, hev1⟩ := hev (NdefX.envF (supF qual params body scope cc cda) fI ((hp.push (PySem.W.kdv_tup us)).push (PySem.HandSPX.excO (He.ga C.X.K c) hp.objs.size)).objs.size)
  have hnG := rep1.noG hn
  refine wpAny_call (PySem.HandSPX.call_own T.FB hT hC (PySem.W.looks_findIn I1.kIn T.iC) (fun self => PySem.W.bind_fn I1.kIn self T.tI) hus
    (codeAny_mono (sup_run (CX := L2.CX C.X.prog C.X.w) (P := C.X.prog) (w := C.X.w) (K := C.X.K) (mg := C.X.mg) (base := C.X.base) (pl := pl) (E := fun _ _ _ => False) (k := k) (a := hp.objs.size + 1) (ws := vs) (H := upd H1 (hp.objs.size + 1) (exo (hp.objs.size + 1) (He.ga C.X.K c) none))
      (Q := fun v H2 => v = .non ∧ Q0 (.ref (hp.objs.size + 1)) H2)
      (Q1 := fun H1' => ∃ F2 R2, Rep C.K (upd C.G (hp.objs.size + 1) (exo (hp.objs.size + 1) (He.ga C.X.K c) none)) F2 R2 S2 H1' ∧ Same F1 F2 ∧ R1 <+: R2)
      T S hbody hasg hfs SB.l8 SB.ns SB.db (hr.make (He.ga C.X.K c) us []) (I2.env0.make (He.ga C.X.K c) us []) SB.bind (.cons rfl r1) (by rw [hvl, hl]) upd_same ?_ (SB.one _) hev1 (hsw _) ?_) fun r s' hq' => ?_))
  · have hgA : ((C.X.A.under (.builtin "type.__call__" ⟨.ref (He.ga C.X.K c) :: us, []⟩)).deeper (NdefX.envF (supF qual params body scope cc cda) fI ((hp.push (PySem.W.kdv_tup us)).push (PySem.HandSPX.excO (He.ga C.X.K c) hp.objs.size)).objs.size)).guards = some [] := by
      first | exact hG | (show (C.X.A.under _).guards = some []; simp [Around.under, Code.isGuard, Code.isCreation, hG])
    have huA : ((C.X.A.under (.builtin "type.__call__" ⟨.ref (He.ga C.X.K c) :: us, []⟩)).deeper (NdefX.envF (supF qual params body scope cc cda) fI ((hp.push (PySem.W.kdv_tup us)).push (PySem.HandSPX.excO (He.ga C.X.K c) hp.objs.size)).objs.size)).units + 200 < cLine := by
      show (C.X.A.under (.builtin "type.__call__" ⟨.ref (He.ga C.X.K c) :: us, []⟩)).units + 3 + 200 < cLine
      rw [make_units]
      have := hr.un
      omega
    have hj := aj_cons (SB.arg (C.X.A.under (.builtin "type.__call__" ⟨.ref (He.ga C.X.K c) :: us, []⟩)) C.X.stack ⟨(hp.push (PySem.W.kdv_tup us)).push (PySem.HandSPX.excO (He.ga C.X.K c) hp.objs.size), g, dr, tk, os⟩ (upd H1 (hp.objs.size + 1) (exo (hp.objs.size + 1) (He.ga C.X.K c) none)) (upd C.G (hp.objs.size + 1) (exo (hp.objs.size + 1) (He.ga C.X.K c) none)) hgA huA) aj_nil (he := SB.one _)
    refine hj (none :: (ps.map fun p => some (Z.D.p p)) ++ [none]) S1 _ F1 R1 _ (sup_slots rx hl) (rep1.guardX hn) _ ?_
    have hA2 : aC m aN (none :: (ps.map fun p => some (Z.D.p p)) ++ [none]) S1 = .ok [.p (.str z)] S2 := by
      unfold aC
      rw [hm2]
      rfl
    rw [hA2]
    intro b F' R' H' hb rep' s' r'
    refine ⟨?_, rep'.hasG, F', R', rep', s', r'⟩
    have := hb.length
    rw [this]
    simp
  · intro H1' H2 dx hq hdx hdne hdn e1 e2 e3
    obtain ⟨F2, R2, rep2, s2, r2⟩ := hq
    have hle : hp.objs.size ≤ dx := by
      refine Nat.le_trans ?_ hdx
      show hp.objs.size ≤ ((hp.push (PySem.W.kdv_tup us)).push (PySem.HandSPX.excO (He.ga C.X.K c) hp.objs.size)).objs.size
      rw [Heap.size_push, Heap.size_push]
      omega
    refine ⟨rfl, ?_⟩
    have rep3 := rep2.unguard hnG
    have hda : del H1' (hp.objs.size + 1) (hp.objs.size + 1) = none := del_same
    have g1 := Grow.new (o := exo (hp.objs.size + 1) (He.ga C.X.K c) (some dx)) rep3.sub hda
    have rep4 := rep3.grow g1
    have hdn' : upd (del H1' (hp.objs.size + 1)) (hp.objs.size + 1) (exo (hp.objs.size + 1) (He.ga C.X.K c) (some dx)) dx = none := by rw [upd_ne hdne, del_ne hdne]; exact hdn
    have g2 := Grow.new (o := exd dx (fs.zip vs).reverse) rep4.sub hdn'
    have rep5 := rep4.grow g2
    have hH : upd (upd (del H1' (hp.objs.size + 1)) (hp.objs.size + 1) (exo (hp.objs.size + 1) (He.ga C.X.K c) (some dx))) dx (exd dx (fs.zip vs).reverse) = H2 := by
      funext b
      by_cases hb : b = dx
      · subst hb
        rw [upd_same, e2]
      · rw [upd_ne hb]
        by_cases hb2 : b = hp.objs.size + 1
        · rw [hb2, upd_same, e1]
        · rw [upd_ne hb2, del_ne hb2, e3 b hb hb2]
    rw [hH] at rep5
    have hzl : fs.length = vs.length := by rw [hvl, hl]
    refine post1 (.ref (hp.objs.size + 1)) _ R2 H2 ?_ rep5 ((s2.trans g1.sF).trans g2.sF) r2
    refine Rp.exv (d := dx) (fs := (fs.zip vs).reverse) ?_ upd_same ?_ ?_
    · rw [upd_ne (fun z => hdne z.symm), upd_same]
    · rw [List.map_reverse, List.map_fst_zip (by omega)]
    · rw [List.map_reverse, List.map_snd_zip (by omega)]
      exact (RpAll.mono ((s2.trans g1.sF).trans g2.sF) _ _ rx).rev
  · cases r with
    | error er =>
      obtain ⟨_, _, _, _, _, _, _, _, _, _, _, _, hE⟩ := (show L2.CX C.X.prog C.X.w C.X.stack _ _ (fun _ _ _ => False) er s' from hq')
      exact hE.elim
    | ok fl =>
      cases fl with
      | ret u =>
        obtain ⟨v, H3, I3, rv, ev, q3⟩ := I2.after hq'
        subst ev
        exact ⟨rv, ⟨.ref (hp.objs.size + 1), H3, I3, rfl, q3⟩⟩
      | next => exact False.elim hq'
      | brk => exact False.elim hq'
      | cont => exact False.elim hq'
end
end Z

namespace Z
open PySem PySem.Spec PyProof.Rows L2
/-! ### X() as a value, X an own exception class without own __init__ -/
theorem pe_exc0 {X : Cx} {C : Addr} {bmB : List Value} {B newId initId : String} {x : Str} {p pos : Pos} (F : ExcBaseFacts B newId initId bmB) (q : PySem.W.excIn X.K C bmB newId = true) (gC : X.mg x = some (.ref C)) (kC : PySem.W.keepIn X.K (.ref C) = true) (hg : Gl X x)
    (hdb : (x == ("__debug__" : Str)) = false := by decide) :
    PE X (.Call (.Name x p) [] [] pos) (fun σ H Q => ∀ a, H a = none → Q (.ref a) (upd H a (exo a C none))) := by
  refine ⟨fun pins s σ H Q I h => ?_⟩
  refine wpAny_Call_Name_kw (ld_glob I hg gC ?_ hdb)
  refine PySem.W.callWith_K0 I.kIn kC ?_
  obtain ⟨hp, g, dr, tk, os⟩ := s
  show wpAny _ _ (call (.ref C) []) _ _ _
  obtain ⟨bm, N, nm, qn, bs, hdct, sn, sub, ab, col, dd, k0, k1, k2, k3, k5, mN, hC, hN, hni, T⟩ := exc_obj I.kIn q
  refine wpAny_call_exc_subT F T hC hN hni (fun h' a hm => ?_) (by show 0 ≤ sizeLine; exact Nat.zero_le _)
  have hn : H a = none := I.hok.gone hm.new
  obtain ⟨t, ht, _, _⟩ := hm.there
  exact ⟨.ref a, upd H a (exo a C none), I.laidN hm.keeps hm.new hn (exo_ok ht), rfl, h a hn⟩
def eMk0 (c : Str) : M := fun _ S => .ok (.p (.exv c [] [])) S
/-! ### e.f of such a value -/
def eAtE (cs : List Str) (f : Str) (m : M) : M := fun sl S => (m sl S).bind fun d S1 => match d with
  | .p (.exv c ks ps) => if c ∈ cs then match lookF ks (ps.map D.p) f with
      | some r => .ok r S1
      | none => .no
    else .no
  | _ => .no
theorem pe_xv {X : Cx} {cs : List Str} {e : Expr} {te : TE} {pos : Pos} {f : Str} (T : XfOk X.K cs f) (he : PE X e te) (hb : attributeBase e f X.env (eval e X.env) = eval e X.env := by rfl) :
    PE X (.Attribute e f pos) (fun σ H Q => te σ H fun x H1 => ∃ (c : Str) (a dd : Addr) (fs : List (Str × V)) (v : V), c ∈ cs ∧ x = .ref a ∧ H1 a = some (exo a (He.ga X.K c) (some dd)) ∧ H1 dd = some (exd dd fs) ∧ fs.lookup f = some v ∧ Q v H1) := by
  refine ⟨fun pins s σ H Q I h => ?_⟩
  refine attr_of hb (thn (he.run pins s σ H _ I h) fun u s1 hh => ?_)
  obtain ⟨x, H1, I1, rx, c, a, dd, fs, v, hc, ex, ea, ed, l, q⟩ := hh
  subst ex
  obtain rfl : u = Value.ref a := rx
  obtain ⟨T, hno⟩ := T c hc
  obtain ⟨t1, ha⟩ := exo_at I1.hok ea
  obtain ⟨mA, hns, hr⟩ := exd_at I1.hok ed
  obtain ⟨od, ho, hl⟩ := lookIn_ns hns
  obtain ⟨u, hu, ru⟩ := RelO.some_of (v := v) (o := mA f) (by rw [← l]; exact hr f)
  have J : PySem.W.InstAt s1.heap a { cls := .ref (He.ga X.K c), dict := some dd, data := .fields #[.ref t1, .none, .none, .none, .bool false, .none] } (He.ga X.K c) (some od) := ⟨ha, rfl, by unfold PySem.W.notCls; rfl, ho⟩
  exact HandSPX.exc_get I1.kIn J T.ga T.gg T.exC (PySem.W.findObj_own T.hdC hno rfl (by rw [hl, hu])) (handed_of ru) ⟨v, H1, I1.tok _, ru, q⟩
section
variable {C : Kx} {e : Expr} {pos p : Pos} {f x c : Str} {m : M} {cs : List Str} {bmB : List Value} {B newId initId : String}
theorem ej_mk0 (F : ExcBaseFacts B newId initId bmB) (q : PySem.W.excIn C.X.K (He.ga C.X.K c) bmB newId = true) (hm : C.X.mg x = some (.ref (He.ga C.X.K c))) (kC : PySem.W.keepIn C.X.K (.ref (He.ga C.X.K c)) = true) (hg : Gl C.X x := by rfl) (hdb : (x == ("__debug__" : Str)) = false := by decide) :
    Ej C (eMk0 c) (.Call (.Name x p) [] [] pos) := .mk fun sl S σ F' R H hs hr Q post => by
  refine ED.of (pe_exc0 F q hm kC hg hdb) fun a hn => ?_
  have g := Grow.new (o := exo a (He.ga C.X.K c) none) hr.sub hn
  exact post (.ref a) _ R _ (show Rp C.K _ (.ref a) (.exv c [] []) from .exv0 upd_same) (hr.grow g) g.sF pre_refl
theorem ej_xv (hcs : XfOk C.X.K cs f) (h : Ej C m e) (hb : attributeBase e f C.X.env (eval e C.X.env) = eval e C.X.env := by rfl) : Ej C (eAtE cs f m) (.Attribute e f pos) := .mk fun sl S σ F R H hs hr Q post => by
  unfold eAtE at post
  refine ED.of (pe_xv hcs pe_d hb) (h sl S σ F R H hs hr _ (Post.bind post fun d1 S1 v F1 R1 H1 _ rx rep1 s1 r1 post1 => ?_))
  cases d1 with
  | ref k => exact post1.elim
  | p q =>
    cases q with
    | exv c ks ps =>
      simp only at post1
      by_cases hc : c ∈ cs
      · rw [if_pos hc] at post1
        cases (show Rp C.K F1 v (.exv c ks ps) from rx) with
        | @exv a dd _ fs _ _ ha hd hk hps =>
          subst hk
          have hl := lookF_at (f := f) (R := R1) (RelAll.of_p hps)
          cases hq : lookF (fs.map (·.1)) (ps.map D.p) f with
          | none => simp only [hq] at post1; exact post1.elim
          | some r =>
            simp only [hq] at post1 hl
            obtain ⟨v', l1, l2⟩ := hl
            exact ⟨c, a, dd, fs, v', hc, rfl, rep1.sub _ _ ha, rep1.sub _ _ hd, l1, post1 v' F1 R1 H1 l2 rep1 (Same.refl _) pre_refl⟩
        | exv0 ha =>
          simp only [List.map_nil, lookF] at post1
          exact post1.elim
      · rw [if_neg hc] at post1; exact post1.elim
    | _ => exact post1.elim
end
/-! ### isinstance of such a value -/
def rIsE (K : PySem.W.Frag) : List V → Hp → VK → Prop := fun xs H Q => ∃ (D a : Addr) (d : Option Addr) (c : V) (b : Bool), xs = [.ref a, c] ∧ ExcC K D ∧ H a = some (exo a D d) ∧ (d = none ∨ ∃ dd fs, d = some dd ∧ H dd = some (exd dd fs)) ∧
  (∃ u, ClsV c u ∧ PySem.W.kitOne K (.ref D) u = some b) ∧ Q (.bl b) H
theorem call_isE {X : Cx} : CallR X (.builtin "isinstance") (rIsE X.K) := by
  intro pins s σ H xs us Q I r h
  obtain ⟨D, a, d, c, b, rfl, T, ha, hd, ⟨u, k, e⟩, q⟩ := h
  obtain ⟨u1, u2, rfl, r1, r2⟩ := vals2 r
  obtain rfl : u1 = Value.ref a := r1
  obtain ⟨t1, hget⟩ := exo_at I.hok ha
  have J : ∃ od, PySem.W.InstAt s.heap a { cls := .ref D, dict := d, data := .fields #[.ref t1, .none, .none, .none, .bool false, .none] } D od := by
    rcases hd with rfl | ⟨dd, fs, rfl, hx⟩
    · exact ⟨none, hget, rfl, rfl, trivial⟩
    · obtain ⟨mA, hns, _⟩ := exd_at I.hok hx
      obtain ⟨od, ho, _⟩ := lookIn_ns hns
      exact ⟨some od, hget, rfl, rfl, ho⟩
  obtain ⟨od, J⟩ := J
  have hcl : (PySem.W.clsIn X.K D).isSome = true := by
    obtain ⟨cd, hc, _⟩ := PySem.W.any_some T.hd
    rw [hc]; rfl
  have Z := PySem.W.kitx_exc (x := a) (od := od) (ox := { cls := .ref D, dict := d, data := .fields #[.ref t1, .none, .none, .none, .bool false, .none] }) hcl T.hg T.hk T.hs T.ha T.hn T.ht T.hm
  have e2 := k.eq r2
  subst e2
  exact PySem.W.kia_one Z I.kIn J e (fun z => nomatch z) fun tk => ⟨.bl b, H, I.tok tk, rfl, q⟩
def twoE : List D → Option (Str × P)
  | [.p (.exv c _ _), .p q] => some (c, q)
  | _ => none
theorem twoE_at {ds : List D} {c : Str} {q : P} (h : twoE ds = some (c, q)) : ∃ ks ps, ds = [.p (.exv c ks ps), .p q] := by
  unfold twoE at h
  split at h
  · cases h; exact ⟨_, _, rfl⟩
  · cases h
def eIsE (tab : XisT) (cs : List Str) (ma : MA) : M := fun sl S => (ma sl S).bind fun ds S1 => match twoE ds with
  | some (c, q) => if c ∈ cs then match kyP q with
      | some k => match kOne tab c k with
        | some b => .ok (.p (.bl b)) S1
        | none => .no
      | none => .no
    else .no
  | none => .no
section
variable {C : Kx} {e : Expr} {es : List Expr} {pos p : Pos} {ma : MA} {tab : XisT} {cs : List Str}
theorem ej_isE (ok : XisOk C.X.K tab cs) (hm : C.X.mg "isinstance" = none) (h : Aj C ma (e :: es)) (hg : Gl C.X "isinstance" := by rfl) (he : Se C e es := by exact se_of rfl) (hpl : Pl C es pos := by exact pl_of rfl) :
    Ej C (eIsE tab cs ma) (.Call (.Name "isinstance" p) (e :: es) [] pos) := .mk fun sl S σ F R H hs hr Q post => by
  unfold eIsE at post
  refine ED.of (pe_callB call_isE hg hm (by decide +kernel) pa_d (by decide) (by decide) he hpl) (h sl S σ F R H hs hr _ (Post.bind post fun ds S1 vs F1 R1 H1 _ rx rep1 s1 r1 post1 => ?_))
  cases h2 : twoE ds with
  | none => simp only [h2] at post1; exact post1.elim
  | some kq =>
    obtain ⟨c, q⟩ := kq
    simp only [h2] at post1
    obtain ⟨ks, ps, hds⟩ := twoE_at h2
    subst hds
    by_cases hc : c ∈ cs
    · rw [if_pos hc] at post1
      cases hk : kyP q with
      | none => simp only [hk] at post1; exact post1.elim
      | some k =>
        simp only [hk] at post1
        cases hb : kOne tab c k with
        | none => simp only [hb] at post1; exact post1.elim
        | some b =>
          simp only [hb] at post1
          obtain ⟨v1, v2, rfl, r1', r2'⟩ : ∃ v1 v2, vs = [v1, v2] ∧ Rp C.K F1 v1 (.exv c ks ps) ∧ Rp C.K F1 v2 q := by
            cases rx with
            | cons r1' rr =>
              cases rr with
              | cons r2' rr =>
                cases rr
                exact ⟨_, _, rfl, r1', r2'⟩
          have T := ok.cls _ hc
          have hP := post1 _ F1 R1 H1 (show RelD C.K F1 R1 (.bl b) (.p (.bl b)) from .bl b) rep1 (Same.refl _) pre_refl
          have hone := kOne_ok (K := C.K) ok hb
          cases r1' with
          | @exv a dd _ fs _ _ ha hd _ _ => exact ⟨_, a, some dd, v2, b, rfl, T, rep1.sub _ _ ha, .inr ⟨dd, fs, rfl, rep1.sub _ _ hd⟩, ⟨_, kyP_rp r2' hk, hone⟩, hP⟩
          | @exv0 a _ ha => exact ⟨_, a, none, v2, b, rfl, T, rep1.sub _ _ ha, .inl rfl, ⟨_, kyP_rp r2' hk, hone⟩, hP⟩
    · rw [if_neg hc] at post1; exact post1.elim
end
end Z

namespace Z
open PySem PySem.Spec PyProof.Rows L2
abbrev tlV : List Value := [.type "ValueError", .type "Exception", .type "BaseException", .type "object"]
abbrev tlI : List Value := [.type "IndexError", .type "LookupError", .type "Exception", .type "BaseException", .type "object"]
end Z

namespace Kw
open PySem PySem.Spec PyProof.Rows L2 Z
def top (i : Nat) : Stmt := PySem.Challenge.pw_lastkind_k08_errors_made.main.body.getD i (.Pass ⟨0, 0, 0, 0⟩)
def clsB (s : Stmt) : List Stmt := match s with
  | .ClassDef _ _ _ b _ _ _ _ _ _ _ => b
  | _ => []
abbrev s_bag : Stmt := top 12
theorem sc_bag : FnScope ["_law_script", "_law_at", "_law_cell", "_law_great", "_law_mixed", "_law_one"] ["_law_script", "_law_at"] (defScope s_bag) := ⟨rfl, rfl, rfl, by decide +kernel, rfl, by decide +kernel, by decide +kernel⟩
theorem bi_bag : BindsBy "_law_bag" ["_law_script", "_law_at"] s_bag := fun _ _ _ _ _ _ us hl => match us, hl with | [_, _], _ => rfl
abbrev s_kinds : Stmt := top 14
theorem sc_kinds : FnScope ["_law_made", "_law_found", "_law_bases", "_law_k", "_law_one"] ["_law_made"] (defScope s_kinds) := ⟨rfl, rfl, rfl, by decide +kernel, rfl, by decide +kernel, by decide +kernel⟩
theorem bi_kinds : BindsBy "_law_kinds" ["_law_made"] s_kinds := fun _ _ _ _ _ _ us hl => match us, hl with | [_], _ => rfl
abbrev s_take : Stmt := top 13
theorem sc_take : FnScope ["_law_bag_here", "_law_many", "_law_digit"] ["_law_bag_here", "_law_many"] (defScope s_take) := ⟨rfl, rfl, rfl, by decide +kernel, rfl, by decide +kernel, by decide +kernel⟩
theorem bi_take : BindsBy "_law_take" ["_law_bag_here", "_law_many"] s_take := fun _ _ _ _ _ _ us hl => match us, hl with | [_, _], _ => rfl
abbrev s_law : Stmt := top 15
theorem sc_law : FnScope ["_law_script", "_law_k", "_law_bag_here", "_law_some", "_law_turn", "_law_one", "_law_two", "_law_told", "_law_made", "_law_error", "_law_at"] ["_law_script"] (defScope s_law) := ⟨rfl, rfl, rfl, by decide +kernel, rfl, by decide +kernel, by decide +kernel⟩
theorem bi_law : BindsBy "law" ["_law_script"] s_law := fun _ _ _ _ _ _ us hl => match us, hl with | [_], _ => rfl
abbrev s_BadText_init : Stmt := (clsB (top 2)).getD 0 (.Pass ⟨0, 0, 0, 0⟩)
def m_BadText : M := eJs [eK (.str "not valid: "), eU fmtG (eV 1), eK (.str ", entry "), eU fmtG (eV 2)]
def arg_BadText : Expr := match defBody s_BadText_init with
  | .Expr (.Call _ [a] _ _) _ :: _ => a
  | _ => .Name "x" ⟨0, 0, 0, 0⟩
theorem sb_BadText {P : Program} {K : PySem.W.Frag} {mg : Str → Option Value} {base : Heap} {w : World} {CX : CXT} {cc cda fI : Addr} : SupE P (defBody s_BadText_init) arg_BadText ["part", "index"] "BadText.__init__" (defArgs s_BadText_init) (defScope s_BadText_init) m_BadText K mg base w CX cc cda fI where
  shape := ⟨_, _, _, _, _, _, _, _, rfl, .cons (.cons (.nil)), rfl, fun _ => ⟨_, rfl⟩, fun _ => rfl⟩
  l8 := by decide
  ns := NdefX.nscope_by (by decide +kernel)
  db := by decide
  bind := fun _ _ _ _ _ us hl => match us, hl with | [_, _, _], _ => rfl
  one := fun _ => rfl
  arg := fun A outer s H G hG hu => ej_js (Jj.cons (ej_str) (Jj.cons (ej_fmtG hG hu (ej_v 1)) (Jj.cons (ej_str) (Jj.cons (ej_fmtG hG hu (ej_v 2)) (Jj.nil)))))
abbrev s_BadNote_init : Stmt := (clsB (top 3)).getD 0 (.Pass ⟨0, 0, 0, 0⟩)
def m_BadNote : M := eJs [eK (.str "line "), eU fmtG (eV 1), eK (.str " cannot stand here")]
def arg_BadNote : Expr := match defBody s_BadNote_init with
  | .Expr (.Call _ [a] _ _) _ :: _ => a
  | _ => .Name "x" ⟨0, 0, 0, 0⟩
theorem sb_BadNote {P : Program} {K : PySem.W.Frag} {mg : Str → Option Value} {base : Heap} {w : World} {CX : CXT} {cc cda fI : Addr} : SupE P (defBody s_BadNote_init) arg_BadNote ["line"] "BadNote.__init__" (defArgs s_BadNote_init) (defScope s_BadNote_init) m_BadNote K mg base w CX cc cda fI where
  shape := ⟨_, _, _, _, _, _, _, _, rfl, .cons (.nil), rfl, fun _ => ⟨_, rfl⟩, fun _ => rfl⟩
  l8 := by decide
  ns := NdefX.nscope_by (by decide +kernel)
  db := by decide
  bind := fun _ _ _ _ _ us hl => match us, hl with | [_, _], _ => rfl
  one := fun _ => rfl
  arg := fun A outer s H G hG hu => ej_js (Jj.cons (ej_str) (Jj.cons (ej_fmtG hG hu (ej_v 1)) (Jj.cons (ej_str) (Jj.nil))))
abbrev s_NoLaying_init : Stmt := (clsB (top 4)).getD 0 (.Pass ⟨0, 0, 0, 0⟩)
def m_NoLaying : M := eK (.str "not a laying of the text")
def arg_NoLaying : Expr := match defBody s_NoLaying_init with
  | .Expr (.Call _ [a] _ _) _ :: _ => a
  | _ => .Name "x" ⟨0, 0, 0, 0⟩
theorem sb_NoLaying {P : Program} {K : PySem.W.Frag} {mg : Str → Option Value} {base : Heap} {w : World} {CX : CXT} {cc cda fI : Addr} : SupE P (defBody s_NoLaying_init) arg_NoLaying ["laying"] "NoLaying.__init__" (defArgs s_NoLaying_init) (defScope s_NoLaying_init) m_NoLaying K mg base w CX cc cda fI where
  shape := ⟨_, _, _, _, _, _, _, _, rfl, .cons (.nil), rfl, fun _ => ⟨_, rfl⟩, fun _ => rfl⟩
  l8 := by decide
  ns := NdefX.nscope_by (by decide +kernel)
  db := by decide
  bind := fun _ _ _ _ _ us hl => match us, hl with | [_, _], _ => rfl
  one := fun _ => rfl
  arg := fun A outer s H G hG hu => ej_str
abbrev s_NoOrder_init : Stmt := (clsB (top 5)).getD 0 (.Pass ⟨0, 0, 0, 0⟩)
def m_NoOrder : M := eK (.str "not an order of the text")
def arg_NoOrder : Expr := match defBody s_NoOrder_init with
  | .Expr (.Call _ [a] _ _) _ :: _ => a
  | _ => .Name "x" ⟨0, 0, 0, 0⟩
theorem sb_NoOrder {P : Program} {K : PySem.W.Frag} {mg : Str → Option Value} {base : Heap} {w : World} {CX : CXT} {cc cda fI : Addr} : SupE P (defBody s_NoOrder_init) arg_NoOrder ["order"] "NoOrder.__init__" (defArgs s_NoOrder_init) (defScope s_NoOrder_init) m_NoOrder K mg base w CX cc cda fI where
  shape := ⟨_, _, _, _, _, _, _, _, rfl, .cons (.nil), rfl, fun _ => ⟨_, rfl⟩, fun _ => rfl⟩
  l8 := by decide
  ns := NdefX.nscope_by (by decide +kernel)
  db := by decide
  bind := fun _ _ _ _ _ us hl => match us, hl with | [_, _], _ => rfl
  one := fun _ => rfl
  arg := fun A outer s H G hG hu => ej_str
abbrev s_Turned_init : Stmt := (clsB (top 6)).getD 0 (.Pass ⟨0, 0, 0, 0⟩)
def m_Turned : M := eK (.str "the order turns a binding pair around")
def arg_Turned : Expr := match defBody s_Turned_init with
  | .Expr (.Call _ [a] _ _) _ :: _ => a
  | _ => .Name "x" ⟨0, 0, 0, 0⟩
theorem sb_Turned {P : Program} {K : PySem.W.Frag} {mg : Str → Option Value} {base : Heap} {w : World} {CX : CXT} {cc cda fI : Addr} : SupE P (defBody s_Turned_init) arg_Turned ["pair"] "Turned.__init__" (defArgs s_Turned_init) (defScope s_Turned_init) m_Turned K mg base w CX cc cda fI where
  shape := ⟨_, _, _, _, _, _, _, _, rfl, .cons (.nil), rfl, fun _ => ⟨_, rfl⟩, fun _ => rfl⟩
  l8 := by decide
  ns := NdefX.nscope_by (by decide +kernel)
  db := by decide
  bind := fun _ _ _ _ _ us hl => match us, hl with | [_, _], _ => rfl
  one := fun _ => rfl
  arg := fun A outer s H G hG hu => ej_str
abbrev s_BadLoop_init : Stmt := (clsB (top 7)).getD 0 (.Pass ⟨0, 0, 0, 0⟩)
def m_BadLoop : M := eJs [eK (.str "not valid: "), eU fmtG (eV 1)]
def arg_BadLoop : Expr := match defBody s_BadLoop_init with
  | .Expr (.Call _ [a] _ _) _ :: _ => a
  | _ => .Name "x" ⟨0, 0, 0, 0⟩
theorem sb_BadLoop {P : Program} {K : PySem.W.Frag} {mg : Str → Option Value} {base : Heap} {w : World} {CX : CXT} {cc cda fI : Addr} : SupE P (defBody s_BadLoop_init) arg_BadLoop ["part"] "BadLoop.__init__" (defArgs s_BadLoop_init) (defScope s_BadLoop_init) m_BadLoop K mg base w CX cc cda fI where
  shape := ⟨_, _, _, _, _, _, _, _, rfl, .cons (.nil), rfl, fun _ => ⟨_, rfl⟩, fun _ => rfl⟩
  l8 := by decide
  ns := NdefX.nscope_by (by decide +kernel)
  db := by decide
  bind := fun _ _ _ _ _ us hl => match us, hl with | [_, _], _ => rfl
  one := fun _ => rfl
  arg := fun A outer s H G hG hu => ej_js (Jj.cons (ej_str) (Jj.cons (ej_fmtG hG hu (ej_v 1)) (Jj.nil)))
abbrev s_BadCommand_init : Stmt := (clsB (top 8)).getD 0 (.Pass ⟨0, 0, 0, 0⟩)
def m_BadCommand : M := eK (.str "not a command")
def arg_BadCommand : Expr := match defBody s_BadCommand_init with
  | .Expr (.Call _ [a] _ _) _ :: _ => a
  | _ => .Name "x" ⟨0, 0, 0, 0⟩
theorem sb_BadCommand {P : Program} {K : PySem.W.Frag} {mg : Str → Option Value} {base : Heap} {w : World} {CX : CXT} {cc cda fI : Addr} : SupE P (defBody s_BadCommand_init) arg_BadCommand ["command"] "BadCommand.__init__" (defArgs s_BadCommand_init) (defScope s_BadCommand_init) m_BadCommand K mg base w CX cc cda fI where
  shape := ⟨_, _, _, _, _, _, _, _, rfl, .cons (.nil), rfl, fun _ => ⟨_, rfl⟩, fun _ => rfl⟩
  l8 := by decide
  ns := NdefX.nscope_by (by decide +kernel)
  db := by decide
  bind := fun _ _ _ _ _ us hl => match us, hl with | [_, _], _ => rfl
  one := fun _ => rfl
  arg := fun A outer s H G hG hu => ej_str
abbrev s_NoStep_init : Stmt := (clsB (top 10)).getD 0 (.Pass ⟨0, 0, 0, 0⟩)
def m_NoStep : M := eK (.str "no such step")
def arg_NoStep : Expr := match defBody s_NoStep_init with
  | .Expr (.Call _ [a] _ _) _ :: _ => a
  | _ => .Name "x" ⟨0, 0, 0, 0⟩
theorem sb_NoStep {P : Program} {K : PySem.W.Frag} {mg : Str → Option Value} {base : Heap} {w : World} {CX : CXT} {cc cda fI : Addr} : SupE P (defBody s_NoStep_init) arg_NoStep ["index"] "NoStep.__init__" (defArgs s_NoStep_init) (defScope s_NoStep_init) m_NoStep K mg base w CX cc cda fI where
  shape := ⟨_, _, _, _, _, _, _, _, rfl, .cons (.nil), rfl, fun _ => ⟨_, rfl⟩, fun _ => rfl⟩
  l8 := by decide
  ns := NdefX.nscope_by (by decide +kernel)
  db := by decide
  bind := fun _ _ _ _ _ us hl => match us, hl with | [_, _], _ => rfl
  one := fun _ => rfl
  arg := fun A outer s H G hG hu => ej_str
def xisT_0 : XisT := [("KindError", .glo "BadText", false), ("KindError", .glo "BadNote", false), ("KindError", .glo "NoLaying", false), ("KindError", .glo "KindError", true), ("KindError", .ty "ValueError", true), ("KindError", .ty "IndexError", false), ("KindError", .glo "NoOrder", false), ("KindError", .glo "Turned", false), ("KindError", .glo "BadLoop", false), ("KindError", .glo "BadCommand", false), ("KindError", .glo "NothingDone", false), ("KindError", .glo "NoStep", false), ("KindError", .ty "KeyError", false), ("KindError", .ty "RuntimeError", false), ("BadText", .glo "BadText", true), ("BadText", .glo "BadNote", false), ("BadText", .glo "NoLaying", false), ("BadText", .glo "KindError", true), ("BadText", .ty "ValueError", true), ("BadText", .ty "IndexError", false), ("BadText", .glo "NoOrder", false), ("BadText", .glo "Turned", false), ("BadText", .glo "BadLoop", false), ("BadText", .glo "BadCommand", false), ("BadText", .glo "NothingDone", false), ("BadText", .glo "NoStep", false), ("BadText", .ty "KeyError", false), ("BadText", .ty "RuntimeError", false), ("BadNote", .glo "BadText", false), ("BadNote", .glo "BadNote", true)]
def xisT_1 : XisT := [("BadNote", .glo "NoLaying", false), ("BadNote", .glo "KindError", true), ("BadNote", .ty "ValueError", true), ("BadNote", .ty "IndexError", false), ("BadNote", .glo "NoOrder", false), ("BadNote", .glo "Turned", false), ("BadNote", .glo "BadLoop", false), ("BadNote", .glo "BadCommand", false), ("BadNote", .glo "NothingDone", false), ("BadNote", .glo "NoStep", false), ("BadNote", .ty "KeyError", false), ("BadNote", .ty "RuntimeError", false), ("NoLaying", .glo "BadText", false), ("NoLaying", .glo "BadNote", false), ("NoLaying", .glo "NoLaying", true), ("NoLaying", .glo "KindError", true), ("NoLaying", .ty "ValueError", true), ("NoLaying", .ty "IndexError", false), ("NoLaying", .glo "NoOrder", false), ("NoLaying", .glo "Turned", false), ("NoLaying", .glo "BadLoop", false), ("NoLaying", .glo "BadCommand", false), ("NoLaying", .glo "NothingDone", false), ("NoLaying", .glo "NoStep", false), ("NoLaying", .ty "KeyError", false), ("NoLaying", .ty "RuntimeError", false), ("NoOrder", .glo "BadText", false), ("NoOrder", .glo "BadNote", false), ("NoOrder", .glo "NoLaying", false), ("NoOrder", .glo "KindError", true)]
def xisT_2 : XisT := [("NoOrder", .ty "ValueError", true), ("NoOrder", .ty "IndexError", false), ("NoOrder", .glo "NoOrder", true), ("NoOrder", .glo "Turned", false), ("NoOrder", .glo "BadLoop", false), ("NoOrder", .glo "BadCommand", false), ("NoOrder", .glo "NothingDone", false), ("NoOrder", .glo "NoStep", false), ("NoOrder", .ty "KeyError", false), ("NoOrder", .ty "RuntimeError", false), ("Turned", .glo "BadText", false), ("Turned", .glo "BadNote", false), ("Turned", .glo "NoLaying", false), ("Turned", .glo "KindError", true), ("Turned", .ty "ValueError", true), ("Turned", .ty "IndexError", false), ("Turned", .glo "NoOrder", false), ("Turned", .glo "Turned", true), ("Turned", .glo "BadLoop", false), ("Turned", .glo "BadCommand", false), ("Turned", .glo "NothingDone", false), ("Turned", .glo "NoStep", false), ("Turned", .ty "KeyError", false), ("Turned", .ty "RuntimeError", false), ("BadLoop", .glo "BadText", false), ("BadLoop", .glo "BadNote", false), ("BadLoop", .glo "NoLaying", false), ("BadLoop", .glo "KindError", true), ("BadLoop", .ty "ValueError", true), ("BadLoop", .ty "IndexError", false)]
def xisT_3 : XisT := [("BadLoop", .glo "NoOrder", false), ("BadLoop", .glo "Turned", false), ("BadLoop", .glo "BadLoop", true), ("BadLoop", .glo "BadCommand", false), ("BadLoop", .glo "NothingDone", false), ("BadLoop", .glo "NoStep", false), ("BadLoop", .ty "KeyError", false), ("BadLoop", .ty "RuntimeError", false), ("BadCommand", .glo "BadText", false), ("BadCommand", .glo "BadNote", false), ("BadCommand", .glo "NoLaying", false), ("BadCommand", .glo "KindError", true), ("BadCommand", .ty "ValueError", true), ("BadCommand", .ty "IndexError", false), ("BadCommand", .glo "NoOrder", false), ("BadCommand", .glo "Turned", false), ("BadCommand", .glo "BadLoop", false), ("BadCommand", .glo "BadCommand", true), ("BadCommand", .glo "NothingDone", false), ("BadCommand", .glo "NoStep", false), ("BadCommand", .ty "KeyError", false), ("BadCommand", .ty "RuntimeError", false), ("NothingDone", .glo "BadText", false), ("NothingDone", .glo "BadNote", false), ("NothingDone", .glo "NoLaying", false), ("NothingDone", .glo "KindError", true), ("NothingDone", .ty "ValueError", true), ("NothingDone", .ty "IndexError", false), ("NothingDone", .glo "NoOrder", false), ("NothingDone", .glo "Turned", false)]
def xisT_4 : XisT := [("NothingDone", .glo "BadLoop", false), ("NothingDone", .glo "BadCommand", false), ("NothingDone", .glo "NothingDone", true), ("NothingDone", .glo "NoStep", false), ("NothingDone", .ty "KeyError", false), ("NothingDone", .ty "RuntimeError", false), ("NoStep", .glo "BadText", false), ("NoStep", .glo "BadNote", false), ("NoStep", .glo "NoLaying", false), ("NoStep", .glo "KindError", false), ("NoStep", .ty "ValueError", false), ("NoStep", .ty "IndexError", true), ("NoStep", .glo "NoOrder", false), ("NoStep", .glo "Turned", false), ("NoStep", .glo "BadLoop", false), ("NoStep", .glo "BadCommand", false), ("NoStep", .glo "NothingDone", false), ("NoStep", .glo "NoStep", true), ("NoStep", .ty "KeyError", false), ("NoStep", .ty "RuntimeError", false)]
def xisT : XisT := xisT_0 ++ xisT_1 ++ xisT_2 ++ xisT_3 ++ xisT_4
def xisC : List Str := ["KindError", "BadText", "BadNote", "NoLaying", "NoOrder", "Turned", "BadLoop", "BadCommand", "NothingDone", "NoStep"]
structure Tx (P : Program) (w : World) (K : PySem.W.Frag) (mg : Str → Option Value) : Prop where
  f_bag : DefAt K mg "_law_bag" s_bag
  g_bag : mg "_law_bag" = some (.ref (He.ga K "_law_bag"))
  f_kinds : DefAt K mg "_law_kinds" s_kinds
  g_kinds : mg "_law_kinds" = some (.ref (He.ga K "_law_kinds"))
  f_take : DefAt K mg "_law_take" s_take
  g_take : mg "_law_take" = some (.ref (He.ga K "_law_take"))
  f_law : DefAt K mg "law" s_law
  g_law : mg "law" = some (.ref (He.ga K "law"))
  b_abs : mg "abs" = none
  b_len : mg "len" = none
  b_int : mg "int" = none
  b_isinstance : mg "isinstance" = none
  b_ValueError : mg "ValueError" = none
  b_IndexError : mg "IndexError" = none
  b_KeyError : mg "KeyError" = none
  b_RuntimeError : mg "RuntimeError" = none
  b_enumerate : mg "enumerate" = none
  b_range : mg "range" = none
  b_max : mg "max" = none
  b_min : mg "min" = none
  b_repr : mg "repr" = none
  b_super : mg "super" = none
  s_BadText : SupC K P (He.ga K "BadText") (He.ma K (He.ga K "BadText") "__init__") (supCl K (He.ma K (He.ga K "BadText") "__init__")) (supCo K (He.ma K (He.ga K "BadText") "__init__")) "ValueError" "ValueError.__new__" "ValueError.__init__" tlV "BadText.__init__" (defArgs s_BadText_init) (defBody s_BadText_init) (defScope s_BadText_init) ["part", "index"]
  s_BadNote : SupC K P (He.ga K "BadNote") (He.ma K (He.ga K "BadNote") "__init__") (supCl K (He.ma K (He.ga K "BadNote") "__init__")) (supCo K (He.ma K (He.ga K "BadNote") "__init__")) "ValueError" "ValueError.__new__" "ValueError.__init__" tlV "BadNote.__init__" (defArgs s_BadNote_init) (defBody s_BadNote_init) (defScope s_BadNote_init) ["line"]
  s_NoLaying : SupC K P (He.ga K "NoLaying") (He.ma K (He.ga K "NoLaying") "__init__") (supCl K (He.ma K (He.ga K "NoLaying") "__init__")) (supCo K (He.ma K (He.ga K "NoLaying") "__init__")) "ValueError" "ValueError.__new__" "ValueError.__init__" tlV "NoLaying.__init__" (defArgs s_NoLaying_init) (defBody s_NoLaying_init) (defScope s_NoLaying_init) ["laying"]
  s_NoOrder : SupC K P (He.ga K "NoOrder") (He.ma K (He.ga K "NoOrder") "__init__") (supCl K (He.ma K (He.ga K "NoOrder") "__init__")) (supCo K (He.ma K (He.ga K "NoOrder") "__init__")) "ValueError" "ValueError.__new__" "ValueError.__init__" tlV "NoOrder.__init__" (defArgs s_NoOrder_init) (defBody s_NoOrder_init) (defScope s_NoOrder_init) ["order"]
  s_Turned : SupC K P (He.ga K "Turned") (He.ma K (He.ga K "Turned") "__init__") (supCl K (He.ma K (He.ga K "Turned") "__init__")) (supCo K (He.ma K (He.ga K "Turned") "__init__")) "ValueError" "ValueError.__new__" "ValueError.__init__" tlV "Turned.__init__" (defArgs s_Turned_init) (defBody s_Turned_init) (defScope s_Turned_init) ["pair"]
  s_BadLoop : SupC K P (He.ga K "BadLoop") (He.ma K (He.ga K "BadLoop") "__init__") (supCl K (He.ma K (He.ga K "BadLoop") "__init__")) (supCo K (He.ma K (He.ga K "BadLoop") "__init__")) "ValueError" "ValueError.__new__" "ValueError.__init__" tlV "BadLoop.__init__" (defArgs s_BadLoop_init) (defBody s_BadLoop_init) (defScope s_BadLoop_init) ["part"]
  s_BadCommand : SupC K P (He.ga K "BadCommand") (He.ma K (He.ga K "BadCommand") "__init__") (supCl K (He.ma K (He.ga K "BadCommand") "__init__")) (supCo K (He.ma K (He.ga K "BadCommand") "__init__")) "ValueError" "ValueError.__new__" "ValueError.__init__" tlV "BadCommand.__init__" (defArgs s_BadCommand_init) (defBody s_BadCommand_init) (defScope s_BadCommand_init) ["command"]
  s_NoStep : SupC K P (He.ga K "NoStep") (He.ma K (He.ga K "NoStep") "__init__") (supCl K (He.ma K (He.ga K "NoStep") "__init__")) (supCo K (He.ma K (He.ga K "NoStep") "__init__")) "IndexError" "IndexError.__new__" "IndexError.__init__" tlI "NoStep.__init__" (defArgs s_NoStep_init) (defBody s_NoStep_init) (defScope s_NoStep_init) ["index"]
  e0_KindError : PySem.W.excIn K (He.ga K "KindError") tlV "ValueError.__new__" = true
  k_KindError : PySem.W.keepIn K (.ref (He.ga K "KindError")) = true
  e0_NothingDone : PySem.W.excIn K (He.ga K "NothingDone") tlV "ValueError.__new__" = true
  k_NothingDone : PySem.W.keepIn K (.ref (He.ga K "NothingDone")) = true
  xv_BadText_part : XfOk K ["BadText"] "part"
  xv_BadText_index : XfOk K ["BadText"] "index"
  xv_BadNote_line : XfOk K ["BadNote"] "line"
  xv_NoLaying_laying : XfOk K ["NoLaying"] "laying"
  xv_NoOrder_order : XfOk K ["NoOrder"] "order"
  xv_Turned_pair : XfOk K ["Turned"] "pair"
  xv_BadLoop_part : XfOk K ["BadLoop"] "part"
  xv_BadCommand_command : XfOk K ["BadCommand"] "command"
  xv_NoStep_index : XfOk K ["NoStep"] "index"
  ptop : (P.main.scope.names.lookup ("super" : Str)).isSome = false
  g_KindError : mg "KindError" = some (.ref (He.ga K "KindError"))
  g_BadText : mg "BadText" = some (.ref (He.ga K "BadText"))
  g_BadNote : mg "BadNote" = some (.ref (He.ga K "BadNote"))
  g_NoLaying : mg "NoLaying" = some (.ref (He.ga K "NoLaying"))
  g_NoOrder : mg "NoOrder" = some (.ref (He.ga K "NoOrder"))
  g_Turned : mg "Turned" = some (.ref (He.ga K "Turned"))
  g_BadLoop : mg "BadLoop" = some (.ref (He.ga K "BadLoop"))
  g_BadCommand : mg "BadCommand" = some (.ref (He.ga K "BadCommand"))
  g_NothingDone : mg "NothingDone" = some (.ref (He.ga K "NothingDone"))
  g_NoStep : mg "NoStep" = some (.ref (He.ga K "NoStep"))
  xis_ : XisOk K xisT xisC
end Kw

namespace Kw
open PySem PySem.Spec PyProof.Rows L2 Z
def d_bag : He5.DefA := ⟨fun K => (He.ga K "_law_bag"), "_law_bag", "_law_bag", defArgs s_bag, defBody s_bag, defScope s_bag, [], []⟩
def d_kinds : He5.DefA := ⟨fun K => (He.ga K "_law_kinds"), "_law_kinds", "_law_kinds", defArgs s_kinds, defBody s_kinds, defScope s_kinds, [], []⟩
def d_take : He5.DefA := ⟨fun K => (He.ga K "_law_take"), "_law_take", "_law_take", defArgs s_take, defBody s_take, defScope s_take, [], []⟩
def d_law : He5.DefA := ⟨fun K => (He.ga K "law"), "law", "law", defArgs s_law, defBody s_law, defScope s_law, [], []⟩
def d_BadText_init : He5.DefA := ⟨fun K => He.ma K (He.ga K "BadText") "__init__", "__init__", "BadText.__init__", defArgs s_BadText_init, defBody s_BadText_init, defScope s_BadText_init, [], []⟩
def d_BadNote_init : He5.DefA := ⟨fun K => He.ma K (He.ga K "BadNote") "__init__", "__init__", "BadNote.__init__", defArgs s_BadNote_init, defBody s_BadNote_init, defScope s_BadNote_init, [], []⟩
def d_NoLaying_init : He5.DefA := ⟨fun K => He.ma K (He.ga K "NoLaying") "__init__", "__init__", "NoLaying.__init__", defArgs s_NoLaying_init, defBody s_NoLaying_init, defScope s_NoLaying_init, [], []⟩
def d_NoOrder_init : He5.DefA := ⟨fun K => He.ma K (He.ga K "NoOrder") "__init__", "__init__", "NoOrder.__init__", defArgs s_NoOrder_init, defBody s_NoOrder_init, defScope s_NoOrder_init, [], []⟩
def d_Turned_init : He5.DefA := ⟨fun K => He.ma K (He.ga K "Turned") "__init__", "__init__", "Turned.__init__", defArgs s_Turned_init, defBody s_Turned_init, defScope s_Turned_init, [], []⟩
def d_BadLoop_init : He5.DefA := ⟨fun K => He.ma K (He.ga K "BadLoop") "__init__", "__init__", "BadLoop.__init__", defArgs s_BadLoop_init, defBody s_BadLoop_init, defScope s_BadLoop_init, [], []⟩
def d_BadCommand_init : He5.DefA := ⟨fun K => He.ma K (He.ga K "BadCommand") "__init__", "__init__", "BadCommand.__init__", defArgs s_BadCommand_init, defBody s_BadCommand_init, defScope s_BadCommand_init, [], []⟩
def d_NoStep_init : He5.DefA := ⟨fun K => He.ma K (He.ga K "NoStep") "__init__", "__init__", "NoStep.__init__", defArgs s_NoStep_init, defBody s_NoStep_init, defScope s_NoStep_init, [], []⟩
def fn : List He5.DefA := [d_bag, d_kinds, d_take, d_law]
def sn : List He5.DefA := [d_BadText_init, d_BadNote_init, d_NoLaying_init, d_NoOrder_init, d_Turned_init, d_BadLoop_init, d_BadCommand_init, d_NoStep_init]
def fa : List He.Fa := [.glo "_law_bag", .glo "_law_kinds", .glo "_law_take", .glo "law", .glo "KindError", .glo "BadText", .glo "BadNote", .glo "NoLaying", .glo "NoOrder", .glo "Turned", .glo "BadLoop", .glo "BadCommand", .glo "NothingDone", .glo "NoStep", .free "abs", .free "len", .free "int", .free "isinstance", .free "ValueError", .free "IndexError", .free "KeyError", .free "RuntimeError", .free "enumerate", .free "range", .free "max", .free "min", .free "repr", .free "super"]
def loose : List PySem.Str := ["KindError", "BadText", "BadNote", "NoLaying", "NoOrder", "Turned", "BadLoop", "BadCommand", "NothingDone", "NoStep", "_law_bag", "_law_take", "_law_kinds"]
def ts : List He.Tab := []
abbrev PG : Program := (PySem.Challenge.rw_lastkind_k08_errors_made).prog
def ex (K : PySem.W.Frag) : Bool := PySem.W.excIn K (He.ga K "KindError") tlV "ValueError.__new__" && (PySem.W.keepIn K (.ref (He.ga K "KindError")) && (PySem.W.excIn K (He.ga K "NothingDone") tlV "ValueError.__new__" && (PySem.W.keepIn K (.ref (He.ga K "NothingDone")) && (xfOkB K ["BadText"] "part" && (xfOkB K ["BadText"] "index" && (xfOkB K ["BadNote"] "line" && (xfOkB K ["NoLaying"] "laying" && (xfOkB K ["NoOrder"] "order" && (xfOkB K ["Turned"] "pair" && (xfOkB K ["BadLoop"] "part" && (xfOkB K ["BadCommand"] "command" && (xfOkB K ["NoStep"] "index" && (supB K (He.ga K "BadText") "ValueError" "ValueError.__new__" "ValueError.__init__" tlV "BadText.__init__" PG.main.file ["part", "index"] && (supB K (He.ga K "BadNote") "ValueError" "ValueError.__new__" "ValueError.__init__" tlV "BadNote.__init__" PG.main.file ["line"] && (supB K (He.ga K "NoLaying") "ValueError" "ValueError.__new__" "ValueError.__init__" tlV "NoLaying.__init__" PG.main.file ["laying"] && (supB K (He.ga K "NoOrder") "ValueError" "ValueError.__new__" "ValueError.__init__" tlV "NoOrder.__init__" PG.main.file ["order"] && (supB K (He.ga K "Turned") "ValueError" "ValueError.__new__" "ValueError.__init__" tlV "Turned.__init__" PG.main.file ["pair"] && (supB K (He.ga K "BadLoop") "ValueError" "ValueError.__new__" "ValueError.__init__" tlV "BadLoop.__init__" PG.main.file ["part"] && (supB K (He.ga K "BadCommand") "ValueError" "ValueError.__new__" "ValueError.__init__" tlV "BadCommand.__init__" PG.main.file ["command"] && (supB K (He.ga K "NoStep") "IndexError" "IndexError.__new__" "IndexError.__init__" tlI "NoStep.__init__" PG.main.file ["index"] && (xisB K xisT && ((xisC.all fun c => excCB K (He.ga K c))))))))))))))))))))))))
abbrev R : PySem.W.OpenRow := PySem.W.OpenLaw.row PySem.Challenge.rw_lastkind_k08_errors_made
abbrev hk : PySem.W.Hook := hookX 5 fa ts fn ex sn
def ob (s : PySem.W.SharedT) : AlX := obsX 5 fa ts fn ex sn (HandSHeadRun.getT s)
theorem ob_eq (s : PySem.W.SharedT) : ob s = hk.obs s.abs := obsX_eq (HandSHeadRun.getT_eq s)
def Pr (w : World) : Prop := HandSHeadRun.RunEq R (PySem.W.view R.prog [15]) hk ob 12000 loose w
end Kw
namespace KwH
open PySem PySem.W PySem.Calls PyProof.Rows HandSHeadRun Kw
theorem map3 {α β γ δ : Type} {o : Option α} {f : α → β} {g : α → γ} {h : α → δ} {b : β} {c : γ} {d : δ} (h1 : o.map (fun s => (f s, g s)) = some (b, c)) (h2 : o.map h = some d) : o.map (fun s => (f s, g s, h s)) = some (b, c, d) := by
  cases o with
  | none => cases h1
  | some x => simp_all
theorem pB_false (w : World) (os : OsState) : (endF (stepQ (denQ tabQ) R.prog (w.withFollow "special-get-raises" false)) 12000 R.prog (w.withFollow "special-get-raises" false) os).map (fun s => (looksF R.prog (boot_heap (w.withFollow "special-get-raises" false).params) s.abs, seenQ (view R.prog [15]) loose (importedModules R.prog.main.body) (fun s => xlAt (view R.prog [15]) [] s && recOk R.toRowW.records s) s.abs)) = some (true, openGood (view R.prog [15]) loose) := by kernel_rfl
theorem pD_false (w : World) (os : OsState) : (endF (stepQ (denQ tabQ) R.prog (w.withFollow "special-get-raises" false)) 12000 R.prog (w.withFollow "special-get-raises" false) os).map ob = some (hk.val (w.withFollow "special-get-raises" false)) := by kernel_rfl
theorem pB_true (w : World) (os : OsState) : (endF (stepQ (denQ tabQ) R.prog (w.withFollow "special-get-raises" true)) 12000 R.prog (w.withFollow "special-get-raises" true) os).map (fun s => (looksF R.prog (boot_heap (w.withFollow "special-get-raises" true).params) s.abs, seenQ (view R.prog [15]) loose (importedModules R.prog.main.body) (fun s => xlAt (view R.prog [15]) [] s && recOk R.toRowW.records s) s.abs)) = some (true, openGood (view R.prog [15]) loose) := by kernel_rfl
theorem pD_true (w : World) (os : OsState) : (endF (stepQ (denQ tabQ) R.prog (w.withFollow "special-get-raises" true)) 12000 R.prog (w.withFollow "special-get-raises" true) os).map ob = some (hk.val (w.withFollow "special-get-raises" true)) := by kernel_rfl
end KwH
namespace Kw
open PySem PySem.Spec PyProof.Rows L2 Z
theorem run0 (w : World) : Pr (w.withFollow "special-get-raises" false) := fun os => KwH.map3 (KwH.pB_false w os) (KwH.pD_false w os)
theorem run1 (w : World) : Pr (w.withFollow "special-get-raises" true) := fun os => KwH.map3 (KwH.pB_true w os) (KwH.pD_true w os)
theorem run (w : World) : HandSHeadRun.RunEq R (PySem.W.view R.prog [15]) hk ob 12000 loose w := PySem.W.byRow2 "special-get-raises" (P := Pr) run0 run1 w
end Kw

namespace Kw
open PySem PySem.Spec PyProof.Rows L2 Z
section
variable {P : Program} {w : World} {K : PySem.W.Frag} {mg : Str → Option Value} {base : Heap}
def b_bag : MS := sSeq (sSet 2 (eIf (tB opLt (eV 1) (eF lenP (aC (eV 0) (aN)))) (eIx (eV 0) (eV 1)) (eK (.int 0)))) (sSeq (sSet 3 (eIf (tB opGe (eF absP (aC (eV 2) (aN))) (eB opPow (eK (.int 10)) (eK (.int 18)))) (eF absP (aC (eV 2) (aN))) (eK (.int 0)))) (sSeq (sSet 4 (eB opAdd (eK (.int 104729)) (eB opMul (eK (.int 7919)) (eV 1)))) (sSeq (sFor (iSeq (eSl (eV 0) (oN) (oS (eK (.int 40))))) (effN 5) (sSeq (sSet 4 (eB opMod (eF intP (aC (eB opAdd (eB opAdd (eB opMul (eV 4) (eK (.int 48271))) (eB opMul (eV 5) (eK (.int 69621)))) (eK (.int 11))) (aN))) (eK (.int 2147483629)))) (sNil))) (sSeq (sRet (eLL (aC (eV 3) (aC (eB opAdd (eB opMod (eF intP (aC (eB opAdd (eV 4) (eB opMul (eK (.int 31)) (eV 2))) (aN))) (eK (.int 2147483563))) (eK (.int 1))) (aN))))) (sNil)))))
def f_bag : Fn := runB 6 b_bag
theorem ok_bag (T : Tx P w K mg) : OkF P w K mg base 1 "_law_bag" ["_law_script", "_law_at"] f_bag :=
  (ok_fn (k := 0) (N := ["_law_script", "_law_at", "_law_cell", "_law_great", "_law_mixed", "_law_one"]) T.f_bag sc_bag bi_bag fun cdv A outer s H E G hr => sj_cons (sj_set 2 sc_bag.nd (ej_if (tj_lt (ej_v 1) (ej_len T.b_len (aj_cons (ej_v 0) (aj_nil)))) (ej_ixG hr.u16 (ej_v 0) (ej_v 1)) (ej_int))) (sj_cons (sj_set 3 sc_bag.nd (ej_if (tj_ge (ej_abs T.b_abs (aj_cons (ej_v 2) (aj_nil))) (ej_pow (ej_int) (ej_int))) (ej_abs T.b_abs (aj_cons (ej_v 2) (aj_nil))) (ej_int))) (sj_cons (sj_set 4 sc_bag.nd (ej_add (ej_int) (ej_mul (ej_int) (ej_v 1)))) (sj_cons (sj_for (g := gName 5) (passes_of rfl) rfl (pi_seq pe_d) (src_seq (ej_slice (ej_v 0) (oj_none) (oj_some (ej_int)))) (pg_name (i := 5) sc_bag.nd rfl (by first | exact Or.inl rfl | exact Or.inr rfl)) (go_name) (sj_cons (sj_set 4 sc_bag.nd (ej_mod (ej_intC T.b_int (aj_cons (ej_add (ej_add (ej_mul (ej_v 4) (ej_int)) (ej_mul (ej_v 5) (ej_int))) (ej_int)) (aj_nil))) (ej_int))) (sj_nil))) (sj_cons (sj_ret (ej_lstL (aj_cons (ej_v 3) (aj_cons (ej_add (ej_mod (ej_intC T.b_int (aj_cons (ej_add (ej_v 4) (ej_mul (ej_int) (ej_v 2))) (aj_nil))) (ej_int)) (ej_int)) (aj_nil))))) (sj_nil))))))
def b_kinds : MS := sSeq (sSet 1 (eL (aC (eIsE xisT xisC (aC (eV 0) (aC (eK (.glo "BadText")) (aN)))) (aC (eIsE xisT xisC (aC (eV 0) (aC (eK (.glo "BadNote")) (aN)))) (aC (eIsE xisT xisC (aC (eV 0) (aC (eK (.glo "NoLaying")) (aN)))) (aN)))))) (sSeq (sSet 1 (eB opAdd (eV 1) (eL (aC (eIsE xisT xisC (aC (eV 0) (aC (eK (.glo "NoOrder")) (aN)))) (aC (eIsE xisT xisC (aC (eV 0) (aC (eK (.glo "Turned")) (aN)))) (aC (eIsE xisT xisC (aC (eV 0) (aC (eK (.glo "BadLoop")) (aN)))) (aN))))))) (sSeq (sSet 1 (eB opAdd (eV 1) (eL (aC (eIsE xisT xisC (aC (eV 0) (aC (eK (.glo "BadCommand")) (aN)))) (aC (eIsE xisT xisC (aC (eV 0) (aC (eK (.glo "NothingDone")) (aN)))) (aC (eIsE xisT xisC (aC (eV 0) (aC (eK (.glo "NoStep")) (aN)))) (aN))))))) (sSeq (sSet 2 (eL (aC (eIsE xisT xisC (aC (eV 0) (aC (eK (.glo "KindError")) (aN)))) (aC (eIsE xisT xisC (aC (eV 0) (aC (eK (.ty "ValueError")) (aN)))) (aC (eIsE xisT xisC (aC (eV 0) (aC (eK (.ty "IndexError")) (aN)))) (aN)))))) (sSeq (sSet 2 (eB opAdd (eV 2) (eL (aC (eIsE xisT xisC (aC (eV 0) (aC (eK (.ty "KeyError")) (aN)))) (aC (eIsE xisT xisC (aC (eV 0) (aC (eK (.ty "RuntimeError")) (aN)))) (aN)))))) (sSeq (sRet (eT (aC (eLc (iEn (eV 1)) (effT 2 (effsC (effN 3) (effsC (effN 4) (effsN)))) (tV (eV 4)) (eV 3) [3, 4]) (aC (eLc (iEn (eV 2)) (effT 2 (effsC (effN 3) (effsC (effN 4) (effsN)))) (tV (eV 4)) (eV 3) [3, 4]) (aN))))) (sNil))))))
def f_kinds : Fn := runB 5 b_kinds
theorem ok_kinds (T : Tx P w K mg) : OkF P w K mg base 1 "_law_kinds" ["_law_made"] f_kinds :=
  (ok_fn (k := 0) (N := ["_law_made", "_law_found", "_law_bases", "_law_k", "_law_one"]) T.f_kinds sc_kinds bi_kinds fun cdv A outer s H E G hr => sj_cons (sj_set 1 sc_kinds.nd (ej_lst (aj_cons (ej_isE T.xis_ T.b_isinstance (aj_cons (ej_v 0) (aj_cons (ej_gO T.g_BadText) (aj_nil)))) (aj_cons (ej_isE T.xis_ T.b_isinstance (aj_cons (ej_v 0) (aj_cons (ej_gO T.g_BadNote) (aj_nil)))) (aj_cons (ej_isE T.xis_ T.b_isinstance (aj_cons (ej_v 0) (aj_cons (ej_gO T.g_NoLaying) (aj_nil)))) (aj_nil)))))) (sj_cons (sj_set 1 sc_kinds.nd (ej_add (ej_v 1) (ej_lst (aj_cons (ej_isE T.xis_ T.b_isinstance (aj_cons (ej_v 0) (aj_cons (ej_gO T.g_NoOrder) (aj_nil)))) (aj_cons (ej_isE T.xis_ T.b_isinstance (aj_cons (ej_v 0) (aj_cons (ej_gO T.g_Turned) (aj_nil)))) (aj_cons (ej_isE T.xis_ T.b_isinstance (aj_cons (ej_v 0) (aj_cons (ej_gO T.g_BadLoop) (aj_nil)))) (aj_nil))))))) (sj_cons (sj_set 1 sc_kinds.nd (ej_add (ej_v 1) (ej_lst (aj_cons (ej_isE T.xis_ T.b_isinstance (aj_cons (ej_v 0) (aj_cons (ej_gO T.g_BadCommand) (aj_nil)))) (aj_cons (ej_isE T.xis_ T.b_isinstance (aj_cons (ej_v 0) (aj_cons (ej_gO T.g_NothingDone) (aj_nil)))) (aj_cons (ej_isE T.xis_ T.b_isinstance (aj_cons (ej_v 0) (aj_cons (ej_gO T.g_NoStep) (aj_nil)))) (aj_nil))))))) (sj_cons (sj_set 2 sc_kinds.nd (ej_lst (aj_cons (ej_isE T.xis_ T.b_isinstance (aj_cons (ej_v 0) (aj_cons (ej_gO T.g_KindError) (aj_nil)))) (aj_cons (ej_isE T.xis_ T.b_isinstance (aj_cons (ej_v 0) (aj_cons (ej_ty T.b_ValueError) (aj_nil)))) (aj_cons (ej_isE T.xis_ T.b_isinstance (aj_cons (ej_v 0) (aj_cons (ej_ty T.b_IndexError) (aj_nil)))) (aj_nil)))))) (sj_cons (sj_set 2 sc_kinds.nd (ej_add (ej_v 2) (ej_lst (aj_cons (ej_isE T.xis_ T.b_isinstance (aj_cons (ej_v 0) (aj_cons (ej_ty T.b_KeyError) (aj_nil)))) (aj_cons (ej_isE T.xis_ T.b_isinstance (aj_cons (ej_v 0) (aj_cons (ej_ty T.b_RuntimeError) (aj_nil)))) (aj_nil)))))) (sj_cons (sj_ret (ej_tup (aj_cons (ej_lc1 (own := [("_law_k", 3), ("_law_one", 4)]) (g := (gTup _ 2 (gCons (gName 3) (gCons (gName 4) (gNil))))) rfl sc_kinds.nd (pi_enumA rfl T.b_enumerate pa_d) (src_enum (ej_v 1)) (blkOk_by (own := [("_law_k", 3), ("_law_one", 4)]) (N := ["_law_made", "_law_found", "_law_bases", "_law_k", "_law_one"]) (sc := defScope s_kinds) (by decide +kernel)) (fun _ _ _ _ _ => pg_tup rfl (pgs_cons (pg_name (i := 3) sc_kinds.nd rfl (by first | exact Or.inl rfl | exact Or.inr rfl)) (pgs_cons (pg_name (i := 4) sc_kinds.nd rfl (by first | exact Or.inl rfl | exact Or.inr rfl)) (pgs_nil)))) (go_tup (gso_cons (go_name) (gso_cons (go_name) (gso_nil)))) (by decide) (fun B hB => by obtain ⟨s', H', Cc, cl, fp, hB⟩ := hB; obtain ⟨BX, W', tk', G'⟩ := B; cases hB; exact tj_v (ej_v 4)) (fun B hB => by obtain ⟨s', H', Cc, cl, fp, hB⟩ := hB; obtain ⟨BX, W', tk', G'⟩ := B; cases hB; exact ej_v 3)) (aj_cons (ej_lc1 (own := [("_law_k", 3), ("_law_one", 4)]) (g := (gTup _ 2 (gCons (gName 3) (gCons (gName 4) (gNil))))) rfl sc_kinds.nd (pi_enumA rfl T.b_enumerate pa_d) (src_enum (ej_v 2)) (blkOk_by (own := [("_law_k", 3), ("_law_one", 4)]) (N := ["_law_made", "_law_found", "_law_bases", "_law_k", "_law_one"]) (sc := defScope s_kinds) (by decide +kernel)) (fun _ _ _ _ _ => pg_tup rfl (pgs_cons (pg_name (i := 3) sc_kinds.nd rfl (by first | exact Or.inl rfl | exact Or.inr rfl)) (pgs_cons (pg_name (i := 4) sc_kinds.nd rfl (by first | exact Or.inl rfl | exact Or.inr rfl)) (pgs_nil)))) (go_tup (gso_cons (go_name) (gso_cons (go_name) (gso_nil)))) (by decide) (fun B hB => by obtain ⟨s', H', Cc, cl, fp, hB⟩ := hB; obtain ⟨BX, W', tk', G'⟩ := B; cases hB; exact tj_v (ej_v 4)) (fun B hB => by obtain ⟨s', H', Cc, cl, fp, hB⟩ := hB; obtain ⟨BX, W', tk', G'⟩ := B; cases hB; exact ej_v 3)) (aj_nil))))) (sj_nil)))))))
def b_take : MS := sSeq (sIf (tB opGt (eIx (eV 0) (eK (.int 0))) (eK (.int 0))) (sSeq (sSet 2 (eB opMod (eIx (eV 0) (eK (.int 0))) (eV 1))) (sSeq (sPut (eV 0) (eK (.int 0)) (eB opDiv (eIx (eV 0) (eK (.int 0))) (eV 1))) (sSeq (sRet (eV 2)) (sNil)))) (sNil)) (sSeq (sPut (eV 0) (eK (.int 1)) (eB opMod (eF intP (aC (eB opAdd (eB opMul (eIx (eV 0) (eK (.int 1))) (eK (.int 48271))) (eK (.int 12820163))) (aN))) (eK (.int 2147483647)))) (sSeq (sRet (eB opMod (eB opMod (eF intP (aC (eB opPow (eIx (eV 0) (eK (.int 1))) (eK (.int 3))) (aN))) (eK (.int 2147483629))) (eV 1))) (sNil)))
def f_take : Fn := runB 3 b_take
theorem ok_take (T : Tx P w K mg) : OkF P w K mg base 1 "_law_take" ["_law_bag_here", "_law_many"] f_take :=
  (ok_fn (k := 0) (N := ["_law_bag_here", "_law_many", "_law_digit"]) T.f_take sc_take bi_take fun cdv A outer s H E G hr => sj_cons (sj_if (tj_gt (ej_ixG hr.u16 (ej_v 0) (ej_int)) (ej_int)) (sj_cons (sj_set 2 sc_take.nd (ej_mod (ej_ixG hr.u16 (ej_v 0) (ej_int)) (ej_v 1))) (sj_cons (sj_put hr.u16 (ej_fdiv (ej_ixG hr.u16 (ej_v 0) (ej_int)) (ej_v 1)) (ej_v 0) (ej_int)) (sj_cons (sj_ret (ej_v 2)) (sj_nil)))) (sj_nil)) (sj_cons (sj_put hr.u16 (ej_mod (ej_intC T.b_int (aj_cons (ej_add (ej_mul (ej_ixG hr.u16 (ej_v 0) (ej_int)) (ej_int)) (ej_int)) (aj_nil))) (ej_int)) (ej_v 0) (ej_int)) (sj_cons (sj_ret (ej_mod (ej_mod (ej_intC T.b_int (aj_cons (ej_pow (ej_ixG hr.u16 (ej_v 0) (ej_int)) (ej_int)) (aj_nil))) (ej_int)) (ej_v 1))) (sj_nil))))
def b_law : MS := sSeq (sFor (iR1 (eF maxP (aC (eK (.int 2)) (aC (eF minP (aC (eK (.int 6)) (aC (eF lenP (aC (eV 0) (aN))) (aN)))) (aN))))) (effN 1) (sSeq (sSet 2 (eCall 2 f_bag (aC (eV 0) (aC (eV 1) (aN))))) (sSeq (sSet 3 (eL (aC (eK .non) (aC (eK (.bl true)) (aC (eK (.int 0)) (aC (eU opNeg (eK (.int 1))) (aC (eB opPow (eK (.int 10)) (eK (.int 39))) (aC (eK (.str "")) (aC (eK (.str "steps")) (aC (eT (aN)) (aC (eT (aC (eK (.int 0)) (aC (eK (.int 1)) (aN)))) (aC (eL (aC (eK (.int 0)) (aN))) (aC (eT (aC (eK .non) (aC (eT (aC (eK (.str "p")) (aC (eK (.int 3)) (aN)))) (aN)))) (aC (eK (.str "pointers")) (aC (eK (.bl false)) (aC (eK (.int 12)) (aN))))))))))))))))) (sSeq (sFor (iR1 (eK (.int 6))) (effN 4) (sSeq (sPar [5, 6] (aC (eIx (eV 3) (eCall 2 f_take (aC (eV 2) (aC (eK (.int 14)) (aN))))) (aC (eIx (eV 3) (eCall 2 f_take (aC (eV 2) (aC (eK (.int 14)) (aN))))) (aN)))) (sSeq (sSet 7 (eL (aC (eAtE ["BadText"] "part" (eMkE "BadText" ["part", "index"] m_BadText (aC (eV 5) (aC (eV 6) (aN))))) (aC (eAtE ["BadText"] "index" (eMkE "BadText" ["part", "index"] m_BadText (aC (eV 5) (aC (eV 6) (aN))))) (aC (eAtE ["BadNote"] "line" (eMkE "BadNote" ["line"] m_BadNote (aC (eV 5) (aN)))) (aC (eAtE ["NoLaying"] "laying" (eMkE "NoLaying" ["laying"] m_NoLaying (aC (eV 5) (aN)))) (aN))))))) (sSeq (sSet 7 (eB opAdd (eV 7) (eL (aC (eAtE ["NoOrder"] "order" (eMkE "NoOrder" ["order"] m_NoOrder (aC (eV 5) (aN)))) (aC (eAtE ["Turned"] "pair" (eMkE "Turned" ["pair"] m_Turned (aC (eV 5) (aN)))) (aC (eAtE ["BadLoop"] "part" (eMkE "BadLoop" ["part"] m_BadLoop (aC (eV 5) (aN)))) (aC (eAtE ["BadCommand"] "command" (eMkE "BadCommand" ["command"] m_BadCommand (aC (eV 5) (aN)))) (aN)))))))) (sSeq (sIf (tB opNe (eF reprP (aC (eB opAdd (eV 7) (eL (aC (eAtE ["NoStep"] "index" (eMkE "NoStep" ["index"] m_NoStep (aC (eV 5) (aN)))) (aN)))) (aN))) (eF reprP (aC (eB opAdd (eL (aC (eV 5) (aC (eV 6) (aN)))) (eB opMul (eL (aC (eV 5) (aN))) (eK (.int 7)))) (aN)))) (sSeq (sRet (eK (.bl false))) (sNil)) (sNil)) (sSeq (sSet 8 (eL (aC (eMkE "BadText" ["part", "index"] m_BadText (aC (eV 5) (aC (eV 6) (aN)))) (aC (eMkE "BadNote" ["line"] m_BadNote (aC (eV 5) (aN))) (aC (eMkE "NoLaying" ["laying"] m_NoLaying (aC (eV 5) (aN))) (aC (eMkE "NoOrder" ["order"] m_NoOrder (aC (eV 5) (aN))) (aC (eMkE "Turned" ["pair"] m_Turned (aC (eV 5) (aN))) (aC (eMkE "BadLoop" ["part"] m_BadLoop (aC (eV 5) (aN))) (aN))))))))) (sSeq (sSet 8 (eB opAdd (eV 8) (eL (aC (eMkE "BadCommand" ["command"] m_BadCommand (aC (eV 5) (aN))) (aC (eMk0 "NothingDone") (aN)))))) (sSeq (sIf (tB opNe (eLc (iSeq (eV 8)) (effN 9) tYes (eCall 1 f_kinds (aC (eV 9) (aN))) [9]) (eLc (iR1 (eK (.int 8))) (effN 10) tYes (eT (aC (eL (aC (eV 10) (aN))) (aC (eL (aC (eK (.int 0)) (aC (eK (.int 1)) (aN)))) (aN)))) [10])) (sSeq (sRet (eK (.bl false))) (sNil)) (sNil)) (sSeq (sIf (tB opNe (eCall 1 f_kinds (aC (eMkE "NoStep" ["index"] m_NoStep (aC (eV 5) (aN))) (aN))) (eT (aC (eL (aC (eK (.int 8)) (aN))) (aC (eL (aC (eK (.int 2)) (aN))) (aN))))) (sSeq (sRet (eK (.bl false))) (sNil)) (sNil)) (sNil)))))))))) (sNil))))) (sSeq (sRet (eB opEq (eCall 1 f_kinds (aC (eMk0 "KindError") (aN))) (eT (aC (eL (aN)) (aC (eL (aC (eK (.int 0)) (aC (eK (.int 1)) (aN)))) (aN)))))) (sNil))
def f_law : Fn := runB 11 b_law
theorem ok_law (T : Tx P w K mg) : OkG P w K mg base 3 "law" ["_law_script"] f_law :=
  (ok_fnG (k := 2) (N := ["_law_script", "_law_k", "_law_bag_here", "_law_some", "_law_turn", "_law_one", "_law_two", "_law_told", "_law_made", "_law_error", "_law_at"]) T.f_law sc_law bi_law fun cdv A outer s H E G hG hr => sj_cons (sj_for (g := gName 1) (passes_of rfl) rfl (pi_range1 rfl T.b_range pa_d) (src_r1 (ej_max rfl T.b_max (aj_cons (ej_int) (aj_cons (ej_min rfl T.b_min (aj_cons (ej_int) (aj_cons (ej_len T.b_len (aj_cons (ej_v 0) (aj_nil))) (aj_nil)))) (aj_nil))))) (pg_name (i := 1) sc_law.nd rfl (by first | exact Or.inl rfl | exact Or.inr rfl)) (go_name) (sj_cons (sj_set 2 sc_law.nd (ej_call (ok_bag T) (hr.mono (by decide)) (aj_cons (ej_v 0) (aj_cons (ej_v 1) (aj_nil))))) (sj_cons (sj_set 3 sc_law.nd (ej_lst (aj_cons (ej_non) (aj_cons (ej_bl) (aj_cons (ej_int) (aj_cons (ej_neg (ej_int)) (aj_cons (ej_pow (ej_int) (ej_int)) (aj_cons (ej_str) (aj_cons (ej_str) (aj_cons (ej_tup (aj_nil)) (aj_cons (ej_tup (aj_cons (ej_int) (aj_cons (ej_int) (aj_nil)))) (aj_cons (ej_lst (aj_cons (ej_int) (aj_nil))) (aj_cons (ej_tup (aj_cons (ej_non) (aj_cons (ej_tup (aj_cons (ej_str) (aj_cons (ej_int) (aj_nil)))) (aj_nil)))) (aj_cons (ej_str) (aj_cons (ej_bl) (aj_cons (ej_int) (aj_nil))))))))))))))))) (sj_cons (sj_for (g := gName 4) (passes_of rfl) rfl (pi_range1 rfl T.b_range pa_d) (src_r1 (ej_int)) (pg_name (i := 4) sc_law.nd rfl (by first | exact Or.inl rfl | exact Or.inr rfl)) (go_name) (sj_cons (sj_par2 5 6 rfl sc_law.nd (aj_cons (ej_ixG hr.u16 (ej_v 3) (ej_call (ok_take T) (hr.mono (by decide)) (aj_cons (ej_v 2) (aj_cons (ej_int) (aj_nil))))) (aj_cons (ej_ixG hr.u16 (ej_v 3) (ej_call (ok_take T) (hr.mono (by decide)) (aj_cons (ej_v 2) (aj_cons (ej_int) (aj_nil))))) (aj_nil)))) (sj_cons (sj_set 7 sc_law.nd (ej_lst (aj_cons (ej_xv T.xv_BadText_part (ej_mkE (k := 0) hG T.s_BadText ⟨⟨_, rfl, rfl⟩, rfl, rfl, rfl, rfl, T.b_super, T.ptop⟩ sb_BadText (hr.mono (by decide)) T.g_BadText (aj_cons (ej_v 5) (aj_cons (ej_v 6) (aj_nil))))) (aj_cons (ej_xv T.xv_BadText_index (ej_mkE (k := 0) hG T.s_BadText ⟨⟨_, rfl, rfl⟩, rfl, rfl, rfl, rfl, T.b_super, T.ptop⟩ sb_BadText (hr.mono (by decide)) T.g_BadText (aj_cons (ej_v 5) (aj_cons (ej_v 6) (aj_nil))))) (aj_cons (ej_xv T.xv_BadNote_line (ej_mkE (k := 0) hG T.s_BadNote ⟨⟨_, rfl, rfl⟩, rfl, rfl, rfl, rfl, T.b_super, T.ptop⟩ sb_BadNote (hr.mono (by decide)) T.g_BadNote (aj_cons (ej_v 5) (aj_nil)))) (aj_cons (ej_xv T.xv_NoLaying_laying (ej_mkE (k := 0) hG T.s_NoLaying ⟨⟨_, rfl, rfl⟩, rfl, rfl, rfl, rfl, T.b_super, T.ptop⟩ sb_NoLaying (hr.mono (by decide)) T.g_NoLaying (aj_cons (ej_v 5) (aj_nil)))) (aj_nil))))))) (sj_cons (sj_set 7 sc_law.nd (ej_add (ej_v 7) (ej_lst (aj_cons (ej_xv T.xv_NoOrder_order (ej_mkE (k := 0) hG T.s_NoOrder ⟨⟨_, rfl, rfl⟩, rfl, rfl, rfl, rfl, T.b_super, T.ptop⟩ sb_NoOrder (hr.mono (by decide)) T.g_NoOrder (aj_cons (ej_v 5) (aj_nil)))) (aj_cons (ej_xv T.xv_Turned_pair (ej_mkE (k := 0) hG T.s_Turned ⟨⟨_, rfl, rfl⟩, rfl, rfl, rfl, rfl, T.b_super, T.ptop⟩ sb_Turned (hr.mono (by decide)) T.g_Turned (aj_cons (ej_v 5) (aj_nil)))) (aj_cons (ej_xv T.xv_BadLoop_part (ej_mkE (k := 0) hG T.s_BadLoop ⟨⟨_, rfl, rfl⟩, rfl, rfl, rfl, rfl, T.b_super, T.ptop⟩ sb_BadLoop (hr.mono (by decide)) T.g_BadLoop (aj_cons (ej_v 5) (aj_nil)))) (aj_cons (ej_xv T.xv_BadCommand_command (ej_mkE (k := 0) hG T.s_BadCommand ⟨⟨_, rfl, rfl⟩, rfl, rfl, rfl, rfl, T.b_super, T.ptop⟩ sb_BadCommand (hr.mono (by decide)) T.g_BadCommand (aj_cons (ej_v 5) (aj_nil)))) (aj_nil)))))))) (sj_cons (sj_if (tj_ne hr.units (ej_repr hG (hr.mono (by decide)) T.b_repr (aj_cons (ej_add (ej_v 7) (ej_lst (aj_cons (ej_xv T.xv_NoStep_index (ej_mkE (k := 0) hG T.s_NoStep ⟨⟨_, rfl, rfl⟩, rfl, rfl, rfl, rfl, T.b_super, T.ptop⟩ sb_NoStep (hr.mono (by decide)) T.g_NoStep (aj_cons (ej_v 5) (aj_nil)))) (aj_nil)))) (aj_nil))) (ej_repr hG (hr.mono (by decide)) T.b_repr (aj_cons (ej_add (ej_lst (aj_cons (ej_v 5) (aj_cons (ej_v 6) (aj_nil)))) (ej_mul (ej_lst (aj_cons (ej_v 5) (aj_nil))) (ej_int))) (aj_nil)))) (sj_cons (sj_ret (ej_bl)) (sj_nil)) (sj_nil)) (sj_cons (sj_set 8 sc_law.nd (ej_lst (aj_cons (ej_mkE (k := 0) hG T.s_BadText ⟨⟨_, rfl, rfl⟩, rfl, rfl, rfl, rfl, T.b_super, T.ptop⟩ sb_BadText (hr.mono (by decide)) T.g_BadText (aj_cons (ej_v 5) (aj_cons (ej_v 6) (aj_nil)))) (aj_cons (ej_mkE (k := 0) hG T.s_BadNote ⟨⟨_, rfl, rfl⟩, rfl, rfl, rfl, rfl, T.b_super, T.ptop⟩ sb_BadNote (hr.mono (by decide)) T.g_BadNote (aj_cons (ej_v 5) (aj_nil))) (aj_cons (ej_mkE (k := 0) hG T.s_NoLaying ⟨⟨_, rfl, rfl⟩, rfl, rfl, rfl, rfl, T.b_super, T.ptop⟩ sb_NoLaying (hr.mono (by decide)) T.g_NoLaying (aj_cons (ej_v 5) (aj_nil))) (aj_cons (ej_mkE (k := 0) hG T.s_NoOrder ⟨⟨_, rfl, rfl⟩, rfl, rfl, rfl, rfl, T.b_super, T.ptop⟩ sb_NoOrder (hr.mono (by decide)) T.g_NoOrder (aj_cons (ej_v 5) (aj_nil))) (aj_cons (ej_mkE (k := 0) hG T.s_Turned ⟨⟨_, rfl, rfl⟩, rfl, rfl, rfl, rfl, T.b_super, T.ptop⟩ sb_Turned (hr.mono (by decide)) T.g_Turned (aj_cons (ej_v 5) (aj_nil))) (aj_cons (ej_mkE (k := 0) hG T.s_BadLoop ⟨⟨_, rfl, rfl⟩, rfl, rfl, rfl, rfl, T.b_super, T.ptop⟩ sb_BadLoop (hr.mono (by decide)) T.g_BadLoop (aj_cons (ej_v 5) (aj_nil))) (aj_nil))))))))) (sj_cons (sj_set 8 sc_law.nd (ej_add (ej_v 8) (ej_lst (aj_cons (ej_mkE (k := 0) hG T.s_BadCommand ⟨⟨_, rfl, rfl⟩, rfl, rfl, rfl, rfl, T.b_super, T.ptop⟩ sb_BadCommand (hr.mono (by decide)) T.g_BadCommand (aj_cons (ej_v 5) (aj_nil))) (aj_cons (ej_mk0 PySem.F.excBase_ValueError T.e0_NothingDone T.g_NothingDone T.k_NothingDone) (aj_nil)))))) (sj_cons (sj_if (tj_ne hr.units (ej_lc0 (own := [("_law_error", 9)]) (g := gName 9) rfl sc_law.nd (pi_seq pe_d) (src_seq (ej_v 8)) (blkOk_by (own := [("_law_error", 9)]) (N := ["_law_script", "_law_k", "_law_bag_here", "_law_some", "_law_turn", "_law_one", "_law_two", "_law_told", "_law_made", "_law_error", "_law_at"]) (sc := defScope s_law) (by decide +kernel)) (fun _ _ _ _ _ => pg_name (i := 9) sc_law.nd rfl (by first | exact Or.inl rfl | exact Or.inr rfl)) (go_name) (by decide) (fun B hB => by obtain ⟨s', H', Cc, cl, fp, hB⟩ := hB; obtain ⟨BX, W', tk', G'⟩ := B; cases hB; exact ej_call (ok_kinds T) (hr.mono (by decide)) (aj_cons (ej_v 9) (aj_nil)))) (ej_lc0 (own := [("_law_at", 10)]) (g := gName 10) rfl sc_law.nd (pi_range1 rfl T.b_range pa_d) (src_r1 (ej_int)) (blkOk_by (own := [("_law_at", 10)]) (N := ["_law_script", "_law_k", "_law_bag_here", "_law_some", "_law_turn", "_law_one", "_law_two", "_law_told", "_law_made", "_law_error", "_law_at"]) (sc := defScope s_law) (by decide +kernel)) (fun _ _ _ _ _ => pg_name (i := 10) sc_law.nd rfl (by first | exact Or.inl rfl | exact Or.inr rfl)) (go_name) (by decide) (fun B hB => by obtain ⟨s', H', Cc, cl, fp, hB⟩ := hB; obtain ⟨BX, W', tk', G'⟩ := B; cases hB; exact ej_tup (aj_cons (ej_lst (aj_cons (ej_v 10) (aj_nil))) (aj_cons (ej_lst (aj_cons (ej_int) (aj_cons (ej_int) (aj_nil)))) (aj_nil)))))) (sj_cons (sj_ret (ej_bl)) (sj_nil)) (sj_nil)) (sj_cons (sj_if (tj_ne hr.units (ej_call (ok_kinds T) (hr.mono (by decide)) (aj_cons (ej_mkE (k := 0) hG T.s_NoStep ⟨⟨_, rfl, rfl⟩, rfl, rfl, rfl, rfl, T.b_super, T.ptop⟩ sb_NoStep (hr.mono (by decide)) T.g_NoStep (aj_cons (ej_v 5) (aj_nil))) (aj_nil))) (ej_tup (aj_cons (ej_lst (aj_cons (ej_int) (aj_nil))) (aj_cons (ej_lst (aj_cons (ej_int) (aj_nil))) (aj_nil))))) (sj_cons (sj_ret (ej_bl)) (sj_nil)) (sj_nil)) (sj_nil)))))))))) (sj_nil))))) (sj_cons (sj_ret (ej_eq hr.units (ej_call (ok_kinds T) (hr.mono (by decide)) (aj_cons (ej_mk0 PySem.F.excBase_ValueError T.e0_KindError T.g_KindError T.k_KindError) (aj_nil))) (ej_tup (aj_cons (ej_lst (aj_nil)) (aj_cons (ej_lst (aj_cons (ej_int) (aj_cons (ej_int) (aj_nil)))) (aj_nil)))))) (sj_nil)))
end
end Kw

namespace Z
open PySem PySem.Spec PyProof.Rows L2
/-! ### what a computation ends with -/
/-- E: what is asked of an exception -/
structure Rs.sx {α : Type} (r : Rs α) (E : Xc → Store → Prop) (Q : α → Store → Prop) : Prop where
  out : match r with
    | .ok a S => Q a S
    | .exc x S => E x S
    | .no => False
structure Fl.sx (r : Fl) (F : Xc → Slots → Store → Prop) (N : Slots → Store → Prop) (T : D → Store → Prop) : Prop where
  out : match r with
    | .nx sl S => N sl S
    | .rt d S => T d S
    | .exc x sl S => F x sl S
    | _ => False
abbrev atS (F : Xc → Slots → Store → Prop) (sl : Slots) : Xc → Store → Prop := fun x S => F x sl S
abbrev noE : Xc → Store → Prop := fun _ _ => False
abbrev noF : Xc → Slots → Store → Prop := fun _ _ _ => False
def opt {α : Type} (o : Option α) (Q : α → Prop) : Prop := match o with
  | some a => Q a
  | none => False
section
variable {α β : Type}
@[simp] theorem opt_some {a : α} {Q : α → Prop} : opt (some a) Q = Q a := rfl
@[simp] theorem opt_none {Q : α → Prop} : opt none Q = False := rfl
@[simp] theorem opt_map {o : Option β} {f : β → α} {Q : α → Prop} : opt (o.map f) Q = opt o fun b => Q (f b) := by cases o <;> rfl
end
section
variable {α β : Type} {Q : β → Store → Prop} {sl : Slots} {S : Store} {N : Slots → Store → Prop} {T : D → Store → Prop} {E : Xc → Store → Prop} {F : Xc → Slots → Store → Prop}
theorem px {p q : Prop} (h : p → q) (k : q → p) : p = q := propext ⟨h, k⟩
@[simp] theorem sx_ok {a : α} {Q : α → Store → Prop} : (Rs.ok a S).sx E Q = Q a S := px (fun h => h.out) (fun h => ⟨h⟩)
@[simp] theorem sx_no {Q : α → Store → Prop} : (Rs.no : Rs α).sx E Q = False := px (fun h => h.out) (fun h => ⟨h⟩)
@[simp] theorem sx_exc {x : Xc} {Q : α → Store → Prop} : (Rs.exc x S : Rs α).sx E Q = E x S := px (fun h => h.out) (fun h => ⟨h⟩)
@[simp] theorem sx_bind {r : Rs α} {f : α → Store → Rs β} : (r.bind f).sx E Q = r.sx E fun a S => (f a S).sx E Q := by cases r <;> simp [Rs.bind]
theorem Rs.sx.imp {r : Rs α} {P Q : α → Store → Prop} (h : r.sx E P) (k : ∀ a S, P a S → Q a S) : r.sx E Q := by
  cases r <;> simp_all
theorem Rs.sx.impE {E' : Xc → Store → Prop} {r : Rs α} {P Q : α → Store → Prop} (h : r.sx E P) (k : ∀ a S, P a S → Q a S) (k' : ∀ x S, E x S → E' x S) : r.sx E' Q := by
  cases r <;> simp_all
theorem Rs.sx.ok {r : Rs α} {P : α → Store → Prop} (h : r.sx noE P) : ∃ a S, r = .ok a S ∧ P a S := by
  cases r with
  | ok a S => exact ⟨a, S, rfl, h.out⟩
  | exc _ _ => exact h.out.elim
  | no => exact h.out.elim
theorem Fl.sx.imp {r : Fl} {N' : Slots → Store → Prop} {T' : D → Store → Prop} (h : r.sx F N T) (k : ∀ a S, N a S → N' a S) (t : ∀ a S, T a S → T' a S) : r.sx F N' T' := by
  cases r <;> first | exact ⟨k _ _ h.out⟩ | exact ⟨t _ _ h.out⟩ | exact ⟨h.out⟩
theorem cnd_sx {p : Prop} [Decidable p] {x : Rs α} {Q : α → Store → Prop} : (if p then x else .no).sx E Q = (p ∧ x.sx E Q) := by
  by_cases h : p <;> simp [h]
@[simp] theorem fsx_nx : (Fl.nx sl S).sx F N T = N sl S := px (fun h => h.out) (fun h => ⟨h⟩)
@[simp] theorem fsx_rt {d : D} : (Fl.rt d S).sx F N T = T d S := px (fun h => h.out) (fun h => ⟨h⟩)
@[simp] theorem fsx_exc {x : Xc} : (Fl.exc x sl S).sx F N T = F x sl S := px (fun h => h.out) (fun h => ⟨h⟩)
@[simp] theorem fsx_no : (Fl.no).sx F N T = False := px (fun h => h.out) (fun h => ⟨h⟩)
@[simp] theorem fsx_bk : (Fl.bk sl S).sx F N T = False := px (fun h => h.out) (fun h => ⟨h⟩)
@[simp] theorem fsx_ct : (Fl.ct sl S).sx F N T = False := px (fun h => h.out) (fun h => ⟨h⟩)
theorem cndF_sx {p : Prop} [Decidable p] {x : Fl} : (if p then x else .no).sx F N T = (p ∧ x.sx F N T) := by
  by_cases h : p <;> simp [h]
@[simp] theorem fsx_st {r : Rs α} {f : α → Store → Fl} : (r.st sl f).sx F N T = r.sx (atS F sl) fun a S => (f a S).sx F N T := by cases r <;> simp [Rs.st]
/-! statements -/
@[simp] theorem w_nil : (sNil sl S).sx F N T = N sl S := by unfold sNil; simp
@[simp] theorem w_seq {m1 m2 : MS} : (sSeq m1 m2 sl S).sx F N T = (m1 sl S).sx F (fun sl S => (m2 sl S).sx F N T) T := by
  unfold sSeq
  cases m1 sl S <;> simp
@[simp] theorem w_set {i : Nat} {m : M} : (sSet i m sl S).sx F N T = (m sl S).sx (atS F sl) fun d S1 => N (sl.set i (some d)) S1 := by unfold sSet; simp
@[simp] theorem w_ret {m : M} : (sRet m sl S).sx F N T = (m sl S).sx (atS F sl) T := by unfold sRet; simp
@[simp] theorem w_retN : (sRetN sl S).sx F N T = T (.p .non) S := by unfold sRetN; simp
@[simp] theorem w_expr {m : M} : (sExpr m sl S).sx F N T = (m sl S).sx (atS F sl) fun _ S1 => N sl S1 := by unfold sExpr; simp
theorem if_sx {b : Bool} {x y : Fl} : (if b = true then x else y).sx F N T = if b = true then x.sx F N T else y.sx F N T := by cases b <;> simp
@[simp] theorem w_if {t : MT} {s1 s2 : MS} : (sIf t s1 s2 sl S).sx F N T = (t sl S).sx (atS F sl) fun b S1 => if b = true then (s1 sl S1).sx F N T else (s2 sl S1).sx F N T := by
  unfold sIf; rw [fsx_st]
  congr 1; funext b S1; exact if_sx
@[simp] theorem w_for {ms : MI} {eff : Eff} {mb : MS} : (sFor ms eff mb sl S).sx F N T = (ms sl S).sx (atS F sl) fun its S1 => (loop eff mb its sl S1).sx F N T := by unfold sFor; rw [fsx_st]
@[simp] theorem w_unp {eff : Eff} {m : M} : (sUnp eff m sl S).sx F N T = (m sl S).sx (atS F sl) fun d S1 => match d with
    | .p q => opt (eff q sl) fun sl' => N sl' S1
    | .ref _ => False := by
  unfold sUnp; rw [fsx_st]
  congr 1; funext d S1
  cases d with
  | p q => simp only []; cases eff q sl <;> simp
  | ref n => simp
@[simp] theorem w_par {js : List Nat} {ma : MA} : (sPar js ma sl S).sx F N T = (ma sl S).sx (atS F sl) fun ds S1 => ds.length = js.length ∧ N (setAll sl js ds) S1 := by
  unfold sPar; rw [fsx_st]
  congr 1; funext ds S1
  rw [cndF_sx, fsx_nx]
@[simp] theorem w_put {mo mi me : M} : (sPut mo mi me sl S).sx F N T = (me sl S).sx (atS F sl) fun v S1 => (mo sl S1).sx (atS F sl) fun d S2 => (mi sl S2).sx (atS F sl) fun i S3 => match d with
    | .ref n => opt (putG S3 n i v) fun S4 => N sl S4
    | _ => False := by
  unfold sPut; rw [fsx_st]
  congr 1; funext v S1; rw [fsx_st]
  congr 1; funext d S2; rw [fsx_st]
  congr 1; funext i S3
  cases d with
  | p q => simp
  | ref n => simp only []; cases putG S3 n i v <;> simp
/-! expressions -/
variable {R : D → Store → Prop} {B : Bool → Store → Prop} {A : List D → Store → Prop} {I : List P → Store → Prop} {O : Option Int → Store → Prop}
@[simp] theorem w_v {i : Nat} : (eV i sl S).sx E R = match sl[i]? with | some (some d) => R d S | _ => False := by
  unfold eV
  cases sl[i]? with
  | none => simp
  | some o => cases o <;> simp
@[simp] theorem w_k {p : P} : (eK p sl S).sx E R = R (.p p) S := by unfold eK; simp
@[simp] theorem w_b {f : P → P → Option P} {m1 m2 : M} : (eB f m1 m2 sl S).sx E R = (m1 sl S).sx E fun d1 S1 => (m2 sl S1).sx E fun d2 S2 => (lift2 f d1 d2 S2).sx E R := by unfold eB; simp only [sx_bind]
@[simp] theorem w_lift2 {f : P → P → Option P} {d1 d2 : D} : (lift2 f d1 d2 S).sx E R = opt (view S d1) fun p => opt (view S d2) fun q => opt (f p q) fun r => R (.p r) S := by
  unfold lift2
  cases view S d1 with
  | none => simp
  | some p => cases view S d2 with
    | none => simp
    | some q => simp only [opt_some]; cases f p q <;> simp
@[simp] theorem w_u {f : P → Option P} {m : M} : (eU f m sl S).sx E R = (m sl S).sx E fun d S1 => (lift1 f d S1).sx E R := by unfold eU; simp only [sx_bind]
@[simp] theorem w_lift1 {f : P → Option P} {d : D} : (lift1 f d S).sx E R = opt (view S d) fun p => opt (f p) fun r => R (.p r) S := by
  unfold lift1
  cases view S d with
  | none => simp
  | some p => simp only [opt_some]; cases f p <;> simp
@[simp] theorem w_and {m1 m2 : M} : (eAnd m1 m2 sl S).sx E R = (m1 sl S).sx E fun d S1 => match d with
    | .p (.bl true) => (m2 sl S1).sx E R
    | .p (.bl false) => R (.p (.bl false)) S1
    | _ => False := by
  unfold eAnd; rw [sx_bind]; congr 1; funext d S1
  cases d with
  | ref n => simp
  | p q =>
    cases q <;> first
      | (simp; done)
      | (rename_i b; cases b <;> simp)
@[simp] theorem w_or {m1 m2 : M} : (eOr m1 m2 sl S).sx E R = (m1 sl S).sx E fun d S1 => match d with
    | .p (.bl false) => (m2 sl S1).sx E R
    | .p (.bl true) => R (.p (.bl true)) S1
    | _ => False := by
  unfold eOr; rw [sx_bind]; congr 1; funext d S1
  cases d with
  | ref n => simp
  | p q =>
    cases q <;> first
      | (simp; done)
      | (rename_i b; cases b <;> simp)
@[simp] theorem w_not {m : M} : (eNot m sl S).sx E R = (m sl S).sx E fun d S1 => match d with
    | .p (.bl b) => R (.p (.bl !b)) S1
    | _ => False := by
  unfold eNot; rw [sx_bind]; congr 1; funext d S1
  cases d with
  | ref n => simp
  | p q =>
    cases q <;> first
      | (simp; done)
      | (rename_i b; cases b <;> simp)
theorem ifr_sx {b : Bool} {x y : Rs α} {Q : α → Store → Prop} : (if b = true then x else y).sx E Q = if b = true then x.sx E Q else y.sx E Q := by cases b <;> simp
theorem ifp_sx {p : Prop} [Decidable p] {x y : Rs α} {Q : α → Store → Prop} : (if p then x else y).sx E Q = if p then x.sx E Q else y.sx E Q := by split <;> simp
@[simp] theorem w_ifE {t : MT} {m1 m2 : M} : (eIf t m1 m2 sl S).sx E R = (t sl S).sx E fun b S1 => if b = true then (m1 sl S1).sx E R else (m2 sl S1).sx E R := by
  unfold eIf; rw [sx_bind]; congr 1; funext b S1; exact ifr_sx
@[simp] theorem w_aN : (aN sl S).sx E A = A [] S := by unfold aN; simp
@[simp] theorem w_aC {m : M} {ma : MA} : (aC m ma sl S).sx E A = (m sl S).sx E fun d S1 => (ma sl S1).sx E fun ds S2 => A (d :: ds) S2 := by unfold aC; simp only [sx_bind, sx_ok]
@[simp] theorem w_f {f : List P → Option P} {ma : MA} : (eF f ma sl S).sx E R = (ma sl S).sx E fun ds S1 => opt (views S1 ds) fun ps => opt (f ps) fun r => R (.p r) S1 := by
  unfold eF; rw [sx_bind]; congr 1; funext ds S1
  unfold liftA
  cases views S1 ds with
  | none => simp
  | some ps => simp only [opt_some]; cases f ps <;> simp
@[simp] theorem w_call {n : Nat} {f : Fn} {ma : MA} : (eCall n f ma sl S).sx E R = (ma sl S).sx E fun ds S1 => ds.length = n ∧ (f ds S1).sx E R := by
  unfold eCall; rw [sx_bind]; congr 1; funext ds S1
  exact cnd_sx
@[simp] theorem w_callD {n : Nat} {dfl : List P} {f : Fn} {ma : MA} : (eCallD n dfl f ma sl S).sx E R = (ma sl S).sx E fun ds S1 => ds.length = n ∧ (f (ds ++ dfl.map .p) S1).sx E R := by
  unfold eCallD; rw [sx_bind]; congr 1; funext ds S1
  exact cnd_sx
@[simp] theorem w_asI {d : D} {Q : Int → Store → Prop} : (asI S d).sx E Q = match view S d with | some (.int i) => Q i S | _ => False := by
  unfold asI
  cases view S d with
  | none => simp
  | some q => cases q <;> simp
@[simp] theorem w_ch {f g : Int → Int → Bool} {m1 m2 m3 : M} : (eCh f g m1 m2 m3 sl S).sx E R = (m1 sl S).sx E fun d1 S1 => (m2 sl S1).sx E fun d2 S2 => (asI S2 d1).sx E fun i S2 => (asI S2 d2).sx E fun j S2 =>
    if f i j = true then (m3 sl S2).sx E fun d3 S3 => (asI S3 d3).sx E fun k S3 => R (.p (.bl (g j k))) S3 else R (.p (.bl false)) S2 := by
  unfold eCh; simp only [sx_bind, ifr_sx, sx_ok]
@[simp] theorem w_lst {ma : MA} : (eL ma sl S).sx E R = (ma sl S).sx E fun ds S1 => opt (pures ds) fun ps => ps.length ≤ sizeLine ∧ R (.p (.lst ps)) S1 := by
  unfold eL; rw [sx_bind]; congr 1; funext ds S1
  cases pures ds with
  | none => simp
  | some ps =>
    simp only [opt_some, cnd_sx, sx_ok]
@[simp] theorem w_tup {ma : MA} : (eT ma sl S).sx E R = (ma sl S).sx E fun ds S1 => opt (pures ds) fun ps => ps.length ≤ sizeLine ∧ R (.p (.tup ps)) S1 := by
  unfold eT; rw [sx_bind]; congr 1; funext ds S1
  cases pures ds with
  | none => simp
  | some ps =>
    simp only [opt_some, cnd_sx, sx_ok]
@[simp] theorem w_lstL {ma : MA} : (eLL ma sl S).sx E R = (ma sl S).sx E fun ds S1 => ds.length ≤ sizeLine ∧ R (.ref S1.length) (S1 ++ [.lst ds]) := by
  unfold eLL; rw [sx_bind]; congr 1; funext ds S1
  simp only [cnd_sx, sx_ok]
@[simp] theorem w_dn {t : Bool} : (eDN t sl S).sx E R = R (.ref S.length) (S ++ [.dic t [] []]) := by unfold eDN; simp
@[simp] theorem w_sl {m : M} {lo hi : MO} : (eSl m lo hi sl S).sx E R = (m sl S).sx E fun d S1 => (lo sl S1).sx E fun l S2 => (hi sl S2).sx E fun h S3 => (lift1 (slP l h) d S3).sx E R := by unfold eSl; simp only [sx_bind]
@[simp] theorem w_oN : (oN sl S).sx E O = O none S := by unfold oN; simp
@[simp] theorem w_oS {m : M} : (oS m sl S).sx E O = (m sl S).sx E fun d S1 => (asI S1 d).sx E fun i S1 => O (some i) S1 := by unfold oS; simp only [sx_bind, sx_ok]
@[simp] theorem w_ix {m1 m2 : M} : (eIx m1 m2 sl S).sx E R = (m1 sl S).sx E fun d1 S1 => (m2 sl S1).sx E fun d2 S2 => (ixG d1 d2 S2).sx E R := by unfold eIx; simp only [sx_bind]
@[simp] theorem w_in {neg : Bool} {m1 m2 : M} : (eIn neg m1 m2 sl S).sx E R = (m1 sl S).sx E fun d1 S1 => (m2 sl S1).sx E fun d2 S2 => (inG neg d1 d2 S2).sx E R := by unfold eIn; simp only [sx_bind]
@[simp] theorem w_lc {ms : MI} {eff : Eff} {t : MT} {me : M} {own : List Nat} : (eLc ms eff t me own sl S).sx E R = (ms sl S).sx E fun its S1 => (lcL eff t me own sl its [] S1).sx E fun ps S2 => R (.p (.lst ps)) S2 := by unfold eLc; simp only [sx_bind, sx_ok]
@[simp] theorem w_lm {f : List D → List D → Option (D × List D)} {mo : M} {ma : MA} : (eLm f mo ma sl S).sx E R = (mo sl S).sx E fun d S1 => match d with
    | .ref n => (match S1[n]? with
      | some (.lst _) => (ma sl S1).sx E fun as S2 => match S2[n]? with
        | some (.lst ds) => opt (f ds as) fun q => R q.1 (S2.set n (.lst q.2))
        | _ => False
      | _ => False)
    | _ => False := by
  unfold eLm; rw [sx_bind]; congr 1; funext d S1
  cases d with
  | p q => simp
  | ref n =>
    simp only []
    cases S1[n]? with
    | none => simp
    | some c =>
      cases c <;> first
        | (simp; done)
        | skip
      simp only [sx_bind]
      congr 1; funext as S2
      cases S2[n]? with
      | none => simp
      | some c' =>
        cases c' <;> first
          | (simp; done)
          | skip
        rename_i ds
        simp only []
        cases f ds as with
        | none => simp
        | some q => simp
/-! tests -/
@[simp] theorem w_asB {d : D} : (asB d S).sx E B = match d with | .p (.bl b) => B b S | _ => False := by
  unfold asB
  cases d with
  | ref n => simp
  | p q =>
    cases q <;> first
      | (simp; done)
      | (rename_i b; cases b <;> simp)
@[simp] theorem w_tB {f : P → P → Option P} {m1 m2 : M} : (tB f m1 m2 sl S).sx E B = (eB f m1 m2 sl S).sx E fun d S1 => (asB d S1).sx E B := by unfold tB; rw [sx_bind]
@[simp] theorem w_tIn {neg : Bool} {m1 m2 : M} : (tIn neg m1 m2 sl S).sx E B = (eIn neg m1 m2 sl S).sx E fun d S1 => (asB d S1).sx E B := by unfold tIn; rw [sx_bind]
@[simp] theorem w_tCh {f g : Int → Int → Bool} {m1 m2 m3 : M} : (tCh f g m1 m2 m3 sl S).sx E B = (eCh f g m1 m2 m3 sl S).sx E fun d S1 => (asB d S1).sx E B := by unfold tCh; rw [sx_bind]
@[simp] theorem w_tV {m : M} : (tV m sl S).sx E B = (m sl S).sx E fun d S1 => (tru S1 d).sx E B := by unfold tV; rw [sx_bind]
@[simp] theorem w_tru {d : D} : (tru S d).sx E B = opt (view S d) fun p => opt (truP p) fun b => B b S := by
  unfold tru
  cases view S d with
  | none => simp
  | some p => simp only [opt_some]; cases truP p <;> simp
@[simp] theorem w_tN {t : MT} : (tN t sl S).sx E B = (t sl S).sx E fun b S1 => B (!b) S1 := by unfold tN; simp only [sx_bind, sx_ok]
@[simp] theorem w_tAnd {t1 t2 : MT} : (tAnd t1 t2 sl S).sx E B = (t1 sl S).sx E fun b S1 => if b = true then (t2 sl S1).sx E B else B false S1 := by
  unfold tAnd; simp only [sx_bind, ifr_sx, sx_ok]
@[simp] theorem w_tOr {t1 t2 : MT} : (tOr t1 t2 sl S).sx E B = (t1 sl S).sx E fun b S1 => if b = true then B true S1 else (t2 sl S1).sx E B := by
  unfold tOr; simp only [sx_bind, ifr_sx, sx_ok]
@[simp] theorem w_tYes : (tYes sl S).sx E B = B true S := by unfold tYes; simp
@[simp] theorem w_tTab {tab : Tabl} {m : M} : (tTab tab m sl S).sx E B = (m sl S).sx E fun d S1 => match d with | .p (.str z) => B (tabAt tab z).isSome S1 | _ => False := by
  unfold tTab onStrB; rw [sx_bind]; congr 1; funext d S1
  cases d with
  | ref n => simp
  | p q =>
    cases q <;> first
      | (simp; done)
      | (rename_i b; cases b <;> simp)
@[simp] theorem w_tNTab {tab : Tabl} {m : M} : (tNTab tab m sl S).sx E B = (m sl S).sx E fun d S1 => match d with | .p (.str z) => B (!(tabAt tab z).isSome) S1 | _ => False := by
  unfold tNTab onStrB; rw [sx_bind]; congr 1; funext d S1
  cases d with
  | ref n => simp
  | p q =>
    cases q <;> first
      | (simp; done)
      | (rename_i b; cases b <;> simp)
@[simp] theorem w_tabAt {tab : Tabl} {m : M} : (eTabAt tab m sl S).sx E R = (m sl S).sx E fun d S1 => match d with | .p (.str z) => opt (tabAt tab z) fun e => R (.p e.p) S1 | _ => False := by
  unfold eTabAt onStr; rw [sx_bind]; congr 1; funext d S1
  cases d with
  | ref n => simp
  | p q =>
    cases q <;> first
      | (simp; done)
      | (rename_i z; simp only []; cases tabAt tab z <;> simp)
/-! what is walked -/
@[simp] theorem w_iSeq {m : M} : (iSeq m sl S).sx E I = (m sl S).sx E fun d S1 => match d with
    | .p q => opt (seqOf q) fun its => I its S1
    | .ref _ => False := by
  unfold iSeq; rw [sx_bind]; congr 1; funext d S1
  cases d with
  | p q => simp only []; cases seqOf q <;> simp
  | ref n => simp
@[simp] theorem w_iR1 {m : M} : (iR1 m sl S).sx E I = (m sl S).sx E fun d S1 => (asI S1 d).sx E fun n S1 => (-(2 ^ 62) ≤ n ∧ n < 2 ^ 62) ∧ I (rng 0 n.toNat) S1 := by
  unfold iR1; simp only [sx_bind]
  congr 1; funext d S1; congr 1; funext n S1
  by_cases h : -(2 ^ 62) ≤ n ∧ n < 2 ^ 62
  · rw [if_pos h, sx_ok]; exact propext ⟨fun q => ⟨h, q⟩, fun q => q.2⟩
  · rw [if_neg h, sx_no]; exact propext ⟨fun q => q.elim, fun q => h q.1⟩
@[simp] theorem w_iR2 {m1 m2 : M} : (iR2 m1 m2 sl S).sx E I = (m1 sl S).sx E fun d S1 => (m2 sl S1).sx E fun e S2 => (asI S2 d).sx E fun i S2 => (asI S2 e).sx E fun j S2 => ((-(2 ^ 62) ≤ i ∧ i < 2 ^ 62) ∧ (-(2 ^ 62) ≤ j ∧ j < 2 ^ 62)) ∧ I (rng i (j - i).toNat) S2 := by
  unfold iR2; simp only [sx_bind]
  congr 1; funext d S1; congr 1; funext e S2; congr 1; funext i S2; congr 1; funext j S2
  by_cases h : (-(2 ^ 62) ≤ i ∧ i < 2 ^ 62) ∧ (-(2 ^ 62) ≤ j ∧ j < 2 ^ 62)
  · rw [if_pos h, sx_ok]; exact propext ⟨fun q => ⟨h, q⟩, fun q => q.2⟩
  · rw [if_neg h, sx_no]; exact propext ⟨fun q => q.elim, fun q => h q.1⟩
@[simp] theorem w_iEn {m : M} : (iEn m sl S).sx E I = (m sl S).sx E fun d S1 => match d with
    | .p (.lst ps) => I (enumP ps) S1
    | .p (.tup ps) => I (enumP ps) S1
    | .p (.scr ns) => I (enumP (ns.map .int)) S1
    | _ => False := by
  unfold iEn; rw [sx_bind]; congr 1; funext d S1
  cases d with
  | ref n => simp
  | p q =>
    cases q <;> first
      | (simp; done)
      | (rename_i b; cases b <;> simp)
@[simp] theorem w_iZp {m1 m2 : M} : (iZp m1 m2 sl S).sx E I = (m1 sl S).sx E fun d S1 => (m2 sl S1).sx E fun e S2 => match d, e with
    | .p (.lst ps), .p (.lst qs) => I (zipP ps qs) S2
    | .p (.tup ps), .p (.tup qs) => I (zipP ps qs) S2
    | _, _ => False := by
  unfold iZp; simp only [sx_bind]; congr 1; funext d S1; congr 1; funext e S2
  cases d with
  | ref n => cases e <;> simp
  | p q =>
    cases e with
    | ref n => cases q <;> simp
    | p r => cases q <;> cases r <;> simp
/-! loops -/
theorem loop_sx {eff : Eff} {mb : MS} (J : List P → Slots → Store → Prop) (step : ∀ q qs sl S, J (q :: qs) sl S → ∃ sl1, eff q sl = some sl1 ∧ (mb sl1 S).sx F (J qs) T) (last : ∀ sl S, J [] sl S → N sl S) : ∀ (its : List P) (sl : Slots) (S : Store), J its sl S → (loop eff mb its sl S).sx F N T
  | [], sl, S, h => ⟨last sl S h⟩
  | q :: qs, sl, S, h => by
    obtain ⟨sl1, e, h1⟩ := step q qs sl S h
    simp only [loop, e]
    cases hb : mb sl1 S with
    | nx sl2 S2 => rw [hb] at h1; exact loop_sx J step last qs sl2 S2 h1.out
    | rt d S2 => rw [hb] at h1; exact ⟨h1.out⟩
    | ct sl2 S2 => rw [hb] at h1; exact h1.out.elim
    | bk sl2 S2 => rw [hb] at h1; exact h1.out.elim
    | exc x sl2 S2 => rw [hb] at h1; exact ⟨h1.out⟩
    | no => rw [hb] at h1; exact h1.out.elim
/-- a list is made item by item -/
theorem lc_sx {eff : Eff} {me : M} {own : List Nat} {Q : List P → Store → Prop} (J : List P → List P → Store → Prop) (step : ∀ q qs acc S, J (q :: qs) acc S → acc.length < sizeLine ∧ ∃ sl1, eff q (wipeS sl own) = some sl1 ∧ (me sl1 S).sx noE fun d S1 => ∃ z, d = .p z ∧ J qs (acc ++ [z]) S1) (last : ∀ acc S, J [] acc S → Q acc S) :
    ∀ (its acc : List P) (S : Store), J its acc S → (lcL eff tYes me own sl its acc S).sx E Q
  | [], acc, S, h => ⟨last acc S h⟩
  | q :: qs, acc, S, h => by
    obtain ⟨hl, sl1, e, h1⟩ := step q qs acc S h
    simp only [lcL, e, tYes]
    cases hb : me sl1 S with
    | ok d S2 =>
      rw [hb] at h1
      obtain ⟨z, rfl, h2⟩ := h1.out
      simp only [if_pos hl]
      exact lc_sx J step last qs (acc ++ [z]) S2 h2
    | exc _ _ => rw [hb] at h1; exact h1.out.elim
    | no => rw [hb] at h1; exact h1.out.elim
/-! defs -/
theorem w_runB {n : Nat} {b : MS} {ds : List D} : (runB n b ds S).sx E R = (b (ent n ds) S).sx (fun x _ S => E x S) (fun _ S => R (.p .non) S) R := by
  unfold runB
  cases b (ent n ds) S <;> simp
def pureSt (S : Store) : Prop := ∀ c ∈ S, clCb 0 c = true
theorem clDb_mono {n : Nat} {d : D} (h : clDb 0 d = true) : clDb n d = true := by
  cases d with
  | p _ => rfl
  | ref m => simp [clDb] at h
theorem clCb_mono {n : Nat} {c : Cell} (h : clCb 0 c = true) : clCb n c = true := by
  have key : ∀ ds : List D, ds.all (clDb 0) = true → ds.all (clDb n) = true := fun ds h => List.all_eq_true.mpr fun d hd => clDb_mono (List.all_eq_true.mp h d hd)
  cases c with
  | lst ds => exact key ds h
  | dic _ _ ds => exact key ds h
  | ins _ _ ds => exact key ds h
  | dead => rfl
  | tab _ => rfl
theorem pureSt.cl {S : Store} (h : pureSt S) (n : Nat) : S.all (clCb n) = true := List.all_eq_true.mpr fun c hc => clCb_mono (h c hc)
/-- a def whose own objects stand still behind it: the store is that of the caller, S1, and what was made, L -/
theorem runZ_by {n : Nat} {b : MS} {ds : List D} (h : ∀ (F : Xc → Slots → Store → Prop) (N : Slots → Store → Prop) (T : D → Store → Prop), (∀ x sl S1 L, S1.length = S.length → pureSt S1 → E x S1 → F x sl (S1 ++ L)) → (∀ sl S1 L, S1.length = S.length → pureSt S1 → R (.p .non) S1 → N sl (S1 ++ L)) → (∀ d S1 L p, S1.length = S.length → pureSt S1 → fzD (S1 ++ L) S.length 8 d = some p → R (.p p) S1 → T d (S1 ++ L)) → (b (ent n ds) S).sx F N T) : (runZ n b ds S).sx E R := by
  have h := h (fun x _ S' => ∃ S1 L, S' = S1 ++ L ∧ S1.length = S.length ∧ pureSt S1 ∧ E x S1) (fun _ S' => ∃ S1 L, S' = S1 ++ L ∧ S1.length = S.length ∧ pureSt S1 ∧ R (.p .non) S1) (fun d S' => ∃ S1 L, S' = S1 ++ L ∧ S1.length = S.length ∧ pureSt S1 ∧ ∃ p, fzD S' S.length 8 d = some p ∧ R (.p p) S1) (fun _ _ S1 L h1 h2 h3 => ⟨S1, L, rfl, h1, h2, h3⟩) (fun _ S1 L h1 h2 h3 => ⟨S1, L, rfl, h1, h2, h3⟩) (fun _ S1 L p h1 h2 h3 h4 => ⟨S1, L, rfl, h1, h2, p, h3, h4⟩)
  unfold runZ runB
  cases hb : b (ent n ds) S with
  | nx sl S' =>
    rw [hb] at h
    obtain ⟨S1, L, rfl, hl, hp, hR⟩ := h.out
    have e : (S1 ++ L).take S.length = S1 := by rw [← hl, List.take_left]
    simp only [froz, e, hp.cl, if_true, fzR]
    exact ⟨hR⟩
  | rt d S' =>
    rw [hb] at h
    obtain ⟨S1, L, rfl, hl, hp, p, hf, hR⟩ := h.out
    have e : (S1 ++ L).take S.length = S1 := by rw [← hl, List.take_left]
    simp only [froz, e, hp.cl, if_true]
    cases d with
    | p q => simp only [fzR, e]; simp only [fzD, Option.some.injEq] at hf; subst hf; exact ⟨hR⟩
    | ref m =>
      have hm : ¬ m < S.length := fun hm => by
        simp only [fzD, if_pos hm] at hf; cases hf
      simp only [fzR, if_neg hm, hf, e]
      exact ⟨hR⟩
  | bk _ _ => rw [hb] at h; exact h.out.elim
  | ct _ _ => rw [hb] at h; exact h.out.elim
  | exc x sl S' =>
    rw [hb] at h
    obtain ⟨S1, L, rfl, hl, hp, hR⟩ := h.out
    have e : (S1 ++ L).take S.length = S1 := by rw [← hl, List.take_left]
    simp only [froz, e, hp.cl, if_true]
    exact ⟨hR⟩
  | no => rw [hb] at h; exact h.out.elim
theorem runB_by {n : Nat} {b : MS} {ds : List D} (h : ∀ (F : Xc → Slots → Store → Prop) (N : Slots → Store → Prop), (∀ x sl S', E x S' → F x sl S') → (∀ sl S', R (.p .non) S' → N sl S') → (b (ent n ds) S).sx F N R) : (runB n b ds S).sx E R := by
  rw [w_runB]; exact h _ _ (fun _ _ _ h => h) fun _ _ h => h
/-! steps -/
variable {m : M} {i n : Nat} {m1 m2 b : MS} {ds : List D}
theorem set_by (P : D → Store → Prop) (h : ∀ R : D → Store → Prop, (∀ d S1, P d S1 → R d S1) → (m sl S).sx (atS F sl) R) (k : ∀ d S1, P d S1 → (m2 (sl.set i (some d)) S1).sx F N T) : (sSeq (sSet i m) m2 sl S).sx F N T := by
  rw [w_seq, w_set]
  exact h _ k
theorem seq_by (P : Slots → Store → Prop) (h : ∀ R : Slots → Store → Prop, (∀ sl S1, P sl S1 → R sl S1) → (m1 sl S).sx F R T) (k : ∀ sl S1, P sl S1 → (m2 sl S1).sx F N T) : (sSeq m1 m2 sl S).sx F N T := by
  rw [w_seq]
  exact h _ k
end
end Z

namespace Z
open PySem PySem.Spec PyProof.Rows L2
/-! ### the bag of draws -/
abbrev bagC (g m : Int) : Cell := .lst [.p (.int g), .p (.int m)]
def Bag (S : Store) (n : Nat) : Prop := ∃ g m : Int, S[n]? = some (bagC g m) ∧ 0 ≤ g ∧ 0 ≤ m ∧ m < 2147483648
def Upd (n : Nat) (S S' : Store) : Prop := ∃ g m : Int, S' = S.set n (bagC g m) ∧ 0 ≤ g ∧ 0 ≤ m ∧ m < 2147483648
theorem Bag.lt {S : Store} {n : Nat} (h : Bag S n) : n < S.length := by
  obtain ⟨g, m, e, _⟩ := h
  exact (List.getElem?_eq_some_iff.mp e).1
theorem Upd.bag {S S' : Store} {n : Nat} (u : Upd n S S') (h : Bag S n) : Bag S' n := by
  obtain ⟨g, m, rfl, h1, h2, h3⟩ := u
  exact ⟨g, m, List.getElem?_set_self h.lt, h1, h2, h3⟩
theorem Upd.refl {S : Store} {n : Nat} (h : Bag S n) : Upd n S S := by
  obtain ⟨g, m, e, h1⟩ := h
  refine ⟨g, m, ?_, h1⟩
  obtain ⟨hl, e⟩ := List.getElem?_eq_some_iff.mp e
  rw [← e, List.set_getElem_self]
theorem Upd.trans {S S' S'' : Store} {n : Nat} (u : Upd n S S') (v : Upd n S' S'') : Upd n S S'' := by
  obtain ⟨g, m, rfl, _⟩ := u
  obtain ⟨g', m', rfl, h⟩ := v
  exact ⟨g', m', by rw [List.set_set], h⟩
theorem Upd.len {S S' : Store} {n : Nat} (u : Upd n S S') : S'.length = S.length := by
  obtain ⟨g, m, rfl, _⟩ := u
  exact List.length_set
theorem Upd.get {S S' : Store} {n i : Nat} (u : Upd n S S') (h : i ≠ n) : S'[i]? = S[i]? := by
  obtain ⟨g, m, rfl, _⟩ := u
  exact List.getElem?_set_ne (Ne.symm h)
theorem Upd.pure {S S' : Store} {n : Nat} (u : Upd n S S') (h : pureSt S) : pureSt S' := by
  obtain ⟨g, m, rfl, _⟩ := u
  intro c hc
  rcases List.mem_or_eq_of_mem_set hc with hc | rfl
  · exact h c hc
  · rfl
theorem Bag.app {S L : Store} {n : Nat} (h : Bag S n) : Bag (S ++ L) n := by
  obtain ⟨g, m, e, h1⟩ := h
  exact ⟨g, m, by rw [List.getElem?_append_left (List.getElem?_eq_some_iff.mp e).1]; exact e, h1⟩
theorem Upd.app {S S' L : Store} {n : Nat} (u : Upd n (S ++ L) S') (h : Bag S n) : ∃ S1, S' = S1 ++ L ∧ Upd n S S1 := by
  obtain ⟨g, m, rfl, h1⟩ := u
  exact ⟨S.set n (bagC g m), by rw [List.set_append_left _ _ h.lt], g, m, rfl, h1⟩
@[simp] theorem viewP {S : Store} {p : P} : view S (.p p) = some p := rfl
@[simp] theorem entE {n : Nat} {ds : List D} : ent n ds = ds.map some ++ List.replicate (n - ds.length) none := rfl
section
variable {S L : Store} {n : Nat} {E : Xc → Store → Prop} {R : D → Store → Prop} {B : Bool → Store → Prop} {α : Type}
@[simp] theorem ix_pp {p q : P} : (ixG (.p p) (.p q) S).sx E R = match p with
    | .dic t ks ps => (okKey t q = true ∧ opt (lookL ks (ps.map D.p) q) fun r => R r S)
    | p => opt (ixP p q) fun r => R (.p r) S := by
  cases p <;> first
    | (simp only [ixG, dicOf, w_lift2, viewP, opt_some]; done)
    | skip
  rename_i t ks ps
  simp only [ixG, dicOf, viewP, cnd_sx]
  congr 1
  cases lookL ks (ps.map D.p) q <;> simp
theorem ix_lst {ds : List D} {i : Int} (e : S[n]? = some (.lst ds)) : (ixG (.ref n) (.p (.int i)) S).sx E R = opt (atI ds i) fun r => R r S := by
  simp only [ixG, dicOf, e, viewP]
  cases atI ds i <;> simp
theorem ix_dic {t : Bool} {ks : List P} {ds : List D} {q : P} (e : S[n]? = some (.dic t ks ds)) : (ixG (.ref n) (.p q) S).sx E R = (okKey t q = true ∧ opt (lookL ks ds q) fun r => R r S) := by
  simp only [ixG, dicOf, e, viewP, cnd_sx]
  congr 1
  cases lookL ks ds q <;> simp
theorem put_lst {ds : List D} {i : Int} {v : D} (e : S[n]? = some (.lst ds)) : putG S n (.p (.int i)) v = (ixN ds.length i).map fun j => S.set n (.lst (ds.set j v)) := by
  simp only [putG, e, viewP]
  cases ixN ds.length i <;> rfl
theorem put_dic {t : Bool} {ks : List P} {ds : List D} {q : P} {v : D} (e : S[n]? = some (.dic t ks ds)) : putG S n (.p q) v = if okKey t q = true ∧ ks.length < sizeLine then some (S.set n (.dic t (putKs ks q) (putV ks ds q v))) else none := by
  simp only [putG, e, viewP]
@[simp] theorem atI_0 {x : α} {l : List α} : atI (x :: l) 0 = some x := by simp [atI, ixN]
@[simp] theorem atI_1 {x y : α} {l : List α} : atI (x :: y :: l) 1 = some y := by
  have : (1 : Int) < ((l.length + 1 + 1 : Nat) : Int) := by omega
  simp only [atI, ixN, List.length_cons, if_pos this]; rfl
@[simp] theorem atI_2 {x y z : α} {l : List α} : atI (x :: y :: z :: l) 2 = some z := by
  have : (2 : Int) < ((l.length + 1 + 1 + 1 : Nat) : Int) := by omega
  simp only [atI, ixN, List.length_cons, if_pos this]; rfl
theorem in_pp {neg : Bool} {p q : P} (h : ∀ t ks ps, q ≠ .dic t ks ps) : (inG neg (.p p) (.p q) S).sx E R = opt ((if neg then opNotIn else opIn) p q) fun r => R (.p r) S := by
  cases q <;> first
    | (exfalso; exact h _ _ _ rfl)
    | skip
  all_goals
    simp only [inG, dicOf, w_lift2, viewP, opt_some]
@[simp] theorem views_nil {Q : List P → Prop} : opt (views S []) Q = Q [] := rfl
@[simp] theorem views_cons {d : D} {ds : List D} {Q : List P → Prop} : opt (views S (d :: ds)) Q = opt (view S d) fun p => opt (views S ds) fun ps => Q (p :: ps) := by
  simp only [views]
  cases view S d with
  | none => rfl
  | some p => cases views S ds <;> rfl
@[simp] theorem pures_nil : pures [] = some [] := rfl
@[simp] theorem pures_cons {p : P} {ds : List D} : pures (.p p :: ds) = (pures ds).map (p :: ·) := rfl
@[simp] theorem cmulR {m n : Int} (h : -(2 ^ 64) < n ∧ n < 2 ^ 64) : CMul m n := .inr h
@[simp] theorem opAdd_i {m n : Int} : opAdd (.int m) (.int n) = some (.int (m + n)) := rfl
@[simp] theorem opSub_i {m n : Int} : opSub (.int m) (.int n) = some (.int (m - n)) := rfl
theorem opMul_i {m n : Int} (h : -(2 ^ 64) < n ∧ n < 2 ^ 64) : opMul (.int m) (.int n) = some (.int (m * n)) := by simp only [opMul]; rw [if_pos (cmulR h)]
theorem opMod_i {m n : Int} (h : 0 < n) : opMod (.int m) (.int n) = some (.int (m % n)) := by simp only [opMod]; rw [if_pos h]
theorem opDiv_i {m n : Int} (h : 0 < n ∧ n < 1073741824) : opDiv (.int m) (.int n) = some (.int (m / n)) := by simp only [opDiv]; rw [if_pos (show CDiv m n from h)]
theorem opPow_i {m n : Int} (h : 0 ≤ n ∧ n ≤ 1000000 ∧ m.natAbs < 2 ^ 64) : opPow (.int m) (.int n) = some (.int (m ^ n.toNat)) := by simp only [opPow]; rw [if_pos (show CPow m n from h)]
@[simp] theorem cmp_i {g : Int → Int → Bool} {m n : Int} : cmpI g (.int m) (.int n) = some (.bl (g m n)) := rfl
@[simp] theorem opEq_i {m n : Int} : opEq (.int m) (.int n) = some (.bl (m == n)) := rfl
@[simp] theorem opNe_i {m n : Int} : opNe (.int m) (.int n) = some (.bl (!(m == n))) := rfl
@[simp] theorem intP_i {m : Int} : intP [.int m] = some (.int m) := rfl
@[simp] theorem intP_b {b : Bool} : intP [.bl b] = some (.int (if b then 1 else 0)) := rfl
@[simp] theorem absP_i {m : Int} : absP [.int m] = some (.int (if m < 0 then -m else m)) := rfl
@[simp] theorem opNeg_i {m : Int} : opNeg (.int m) = some (.int (-m)) := rfl
@[simp] theorem lenP_l {ps : List P} : lenP [.lst ps] = some (.int ps.length) := rfl
@[simp] theorem lenP_t {ps : List P} : lenP [.tup ps] = some (.int ps.length) := rfl
@[simp] theorem lenP_s {ns : List Int} : lenP [.scr ns] = some (.int ns.length) := rfl
@[simp] theorem minP_i {m n : Int} : minP [.int m, .int n] = some (.int (if n < m then n else m)) := rfl
@[simp] theorem maxP_i {m n : Int} : maxP [.int m, .int n] = some (.int (if n > m then n else m)) := rfl
@[simp] theorem tupleP_l {ps : List P} : tupleP [.lst ps] = some (.tup ps) := rfl
@[simp] theorem tupleP_t {ps : List P} : tupleP [.tup ps] = some (.tup ps) := rfl
@[simp] theorem seqOf_l {ps : List P} : seqOf (.lst ps) = some ps := rfl
@[simp] theorem seqOf_t {ps : List P} : seqOf (.tup ps) = some ps := rfl
@[simp] theorem seqOf_s {ns : List Int} : seqOf (.scr ns) = some (ns.map .int) := rfl
@[simp] theorem effN_e {j : Nat} {q : P} {sl : Slots} : effN j q sl = some (sl.set j (some (.p q))) := rfl
@[simp] theorem setAll_nil {sl : Slots} {ds : List D} : setAll sl [] ds = sl := by cases ds <;> rfl
@[simp] theorem setAll_cons {sl : Slots} {j : Nat} {js : List Nat} {d : D} {ds : List D} : setAll sl (j :: js) (d :: ds) = setAll (sl.set j (some d)) js ds := rfl
theorem step_set {F : Xc → Slots → Store → Prop} {N : Slots → Store → Prop} {T : D → Store → Prop} {m : M} {i : Nat} {m2 : MS} {sl : Slots} (P : D → Store → Prop) (h : (m sl S).sx (atS F sl) P) (k : ∀ d S1, P d S1 → (m2 (sl.set i (some d)) S1).sx F N T) : (sSeq (sSet i m) m2 sl S).sx F N T := by
  rw [w_seq, w_set]
  exact h.imp k
theorem step {F : Xc → Slots → Store → Prop} {N : Slots → Store → Prop} {T : D → Store → Prop} {m1 m2 : MS} {sl : Slots} (P : Slots → Store → Prop) (h : (m1 sl S).sx F P T) (k : ∀ sl S1, P sl S1 → (m2 sl S1).sx F N T) : (sSeq m1 m2 sl S).sx F N T := by
  rw [w_seq]
  exact h.imp k fun _ _ h => h
theorem at_lt {xs : List α} {k : Int} (h0 : 0 ≤ k) (h : k < (xs.length : Int)) : ∃ v, atI xs k = some v ∧ v ∈ xs := by
  have hl : k.toNat < xs.length := by omega
  refine ⟨xs[k.toNat], ?_, List.getElem_mem hl⟩
  simp only [atI, ixN, if_pos h0, if_pos h, Option.bind_some]
  exact List.getElem?_eq_getElem hl
end
end Z
namespace Kw
open PySem PySem.Spec PyProof.Rows L2 Z
section
variable {S L : Store} {n : Nat} {many : Int} {E : Xc → Store → Prop} {Q : D → Store → Prop}
theorem take_raw (hb : Bag S n) (h0 : 0 < many) (h1 : many < 1073741824) (k : ∀ d S', 0 ≤ d → d < many → Upd n S S' → Q (.p (.int d)) S') : (f_take [.ref n, .p (.int many)] S).sx E Q := by
  obtain ⟨g, m, e, hg, hm0, hm1⟩ := hb
  have hl : n < S.length := (List.getElem?_eq_some_iff.mp e).1
  have e' : ∀ c, (S.set n c)[n]? = some c := fun c => List.getElem?_set_self hl
  unfold f_take b_take
  rw [w_runB]
  simp [List.replicate, ix_lst e]
  split
  · rename_i hg'
    simp [opMod_i h0, opDiv_i ⟨h0, h1⟩, put_lst e, ixN]
    exact k _ _ (Int.emod_nonneg _ (by omega)) (Int.emod_lt_of_pos _ h0) ⟨g / many, m, rfl, Int.ediv_nonneg hg (by omega), hm0, hm1⟩
  · rename_i hg'
    have : m * 48271 + 12820163 < 2 ^ 64 := by omega
    have hz : (m * 48271 + 12820163) % 2147483647 < 2147483647 := Int.emod_lt_of_pos _ (by omega)
    have hz0 : 0 ≤ (m * 48271 + 12820163) % 2147483647 := Int.emod_nonneg _ (by omega)
    simp [opMul_i, opMod_i, put_lst e, ixN, ix_lst (e' _)]
    rw [opPow_i (by omega)]
    simp [opMod_i, opMod_i h0]
    exact k _ _ (Int.emod_nonneg _ (by omega)) (Int.emod_lt_of_pos _ h0) ⟨g, _, rfl, hg, hz0, by omega⟩
/-- a draw -/
theorem take_sat (hb : Bag S n) (h0 : 0 < many) (h1 : many < 1073741824) (k : ∀ d S', 0 ≤ d → d < many → Upd n S S' → Q (.p (.int d)) (S' ++ L)) : (f_take [.ref n, .p (.int many)] (S ++ L)).sx E Q :=
  take_raw hb.app h0 h1 fun d S' hd0 hd1 u => by
    obtain ⟨S1, rfl, u1⟩ := u.app hb
    exact k d S1 hd0 hd1 u1
theorem bag_sat {ns : List Int} {k : Int} (hk : 0 ≤ k) (hk' : k < 4294967296) (h : ∀ g m : Int, 0 ≤ g → 0 ≤ m → m < 2147483648 → Q (.ref S.length) (S ++ [bagC g m])) : (f_bag [.p (.scr ns), .p (.int k)] S).sx E Q := by
  unfold f_bag b_bag
  rw [w_runB]
  refine step_set (fun d S1 => S = S1 ∧ ∃ c : Int, d = .p (.int c)) ?_ ?_
  · simp [List.replicate, ixP]
    intro hl
    obtain ⟨v, e, _⟩ := at_lt (xs := ns) hk hl
    simp [e]
  rintro d _ ⟨rfl, c, rfl⟩
  refine step_set (fun d S1 => S = S1 ∧ ∃ g : Int, 0 ≤ g ∧ d = .p (.int g)) ?_ ?_
  · simp [List.replicate, opPow_i]
    split <;> omega
  rintro d _ ⟨rfl, g, hg, rfl⟩
  refine step_set (fun d S1 => S = S1 ∧ ∃ m : Int, d = .p (.int m)) ?_ ?_
  · simp [List.replicate, opMul_i (show -(2 ^ 64) < k ∧ k < 2 ^ 64 by omega)]
  rintro d _ ⟨rfl, m, rfl⟩
  rw [w_seq]
  simp only [w_for]
  refine Rs.sx.imp (P := fun its S1 => S = S1 ∧ ∃ zs : List Int, its = zs.map .int) ?_ ?_
  · simp [List.replicate, slP]
    exact ⟨_, rfl⟩
  rintro its _ ⟨rfl, zs, rfl⟩
  refine loop_sx (fun its sl S' => S = S' ∧ (∃ zs : List Int, its = zs.map .int) ∧ ∃ (m : Int) (x : Option D), sl = [some (.p (.scr ns)), some (.p (.int k)), some (.p (.int c)), some (.p (.int g)), some (.p (.int m)), x]) ?_ ?_ _ _ _ ⟨rfl, ⟨_, rfl⟩, m, none, by simp [List.replicate]⟩
  · rintro q qs sl S' ⟨rfl, ⟨zs, hz⟩, m, x, rfl⟩
    cases zs with
    | nil => cases hz
    | cons z zs =>
      cases hz
      refine ⟨_, rfl, ?_⟩
      simp [opMul_i, opMod_i]
      exact ⟨zs, rfl⟩
  · rintro sl S' ⟨rfl, _, m, x, rfl⟩
    have : 0 ≤ (m + 31 * c) % 2147483563 := Int.emod_nonneg _ (by omega)
    have : (m + 31 * c) % 2147483563 < 2147483563 := Int.emod_lt_of_pos _ (by omega)
    have e : opMul (.int 31) (.int c) = some (.int (31 * c)) := by simp only [opMul]; rw [if_pos (show CMul 31 c from .inl (by decide))]
    simp [e, opMod_i, show 2 ≤ sizeLine by decide]
    exact h _ _ hg (by omega) (by omega)
end
end Kw

namespace Kw
open PySem PySem.Spec PyProof.Rows L2 Z
theorem str_size (z : Str) : z.cps.toList.length = z.length := by rw [Array.length_toList]; rfl
/-- data of a moderate size -/
def sm : Nat → P → Bool
  | _, .non => true
  | _, .bl _ => true
  | _, .int _ => true
  | _, .str z => chOk z && decide (z.length ≤ 1000)
  | n + 1, .lst xs => decide (xs.length ≤ 1000) && xs.all (sm n)
  | n + 1, .tup xs => decide (xs.length ≤ 1000) && xs.all (sm n)
  | _, _ => false
theorem sm_fin : ∀ (n : Nat) (p : P), sm n p = true → fin n p = true
  | 0, p, h => by cases p <;> simp_all [sm, fin]
  | n + 1, p, h => by
    cases p <;> simp_all [sm, fin]
    all_goals exact fun x hx => sm_fin n x (h.2 x hx)
def cs (z : Str) : List Nat := z.cps.toList
theorem cs_len (z : Str) : (cs z).length = z.length := str_size z
theorem opEq_ok {p q : P} (h1 : fin dpt p = true) (h2 : fin dpt q = true) : opEq p q = some (.bl (eqv p q)) := by simp only [opEq, h1, h2, and_self, if_true]
theorem opNe_ok {p q : P} (h1 : fin dpt p = true) (h2 : fin dpt q = true) : opNe p q = some (.bl (!eqv p q)) := by simp only [opNe, h1, h2, and_self, if_true]
theorem sm_dpt {n : Nat} {p : P} (h : sm n p = true) (hn : n ≤ 24 := by decide) : fin dpt p = true := fin_mono (sm_fin n p h) hn
theorem chOk_mem {z : Str} (h : chOk z = true) : ∀ c ∈ cs z, c < 0x110000 := fun c hc => by
  unfold chOk PyData.strOk at h
  unfold cs at hc
  have := Array.all_eq_true'.mp h c (by simpa using hc)
  simpa using this
theorem chOk_of {z : Str} (h : ∀ c ∈ cs z, c < 0x110000) : chOk z = true := by
  unfold chOk PyData.strOk
  refine Array.all_eq_true'.mpr fun c hc => ?_
  simpa using h c (by unfold cs; simpa using hc)
theorem cs_append (x y : Str) : cs (x ++ y) = cs x ++ cs y := by
  show (x.cps ++ y.cps).toList = _
  simp [cs]
theorem len_append (x y : Str) : (x ++ y).length = x.length + y.length := by rw [← cs_len, cs_append, List.length_append, cs_len, cs_len]
theorem chOk_append {x y : Str} (h : chOk x = true) (h' : chOk y = true) : chOk (x ++ y) = true := chOk_of fun c hc => by
  rw [cs_append] at hc
  rcases List.mem_append.mp hc with hc | hc
  · exact chOk_mem h c hc
  · exact chOk_mem h' c hc
/-! ### data with a short text -/
def sq : Nat → P → Bool
  | _, .non => true
  | _, .bl _ => true
  | _, .int i => decide (i.natAbs < 10 ^ 45)
  | _, .str z => chOk z && decide (z.length ≤ 1000)
  | n + 1, .lst xs => decide (xs.length ≤ 1000) && xs.all (sq n)
  | n + 1, .tup xs => decide (xs.length ≤ 1000) && xs.all (sq n)
  | _, _ => false
theorem sq_sm : ∀ (n : Nat) (p : P), sq n p = true → sm n p = true
  | 0, p, h => by cases p <;> simp_all [sq, sm]
  | n + 1, p, h => by
    cases p <;> simp_all [sq, sm]
    all_goals exact fun x hx => sq_sm n x (h.2 x hx)
theorem sq_mono : ∀ {n : Nat} {p : P}, sq n p = true → sq (n + 1) p = true
  | 0, p, h => by cases p <;> simp_all [sq]
  | n + 1, p, h => by
    cases p <;> simp_all [sq]
    all_goals exact fun x hx => sq_mono (h.2 x hx)
theorem sq_le {n m : Nat} {p : P} (h : sq n p = true) (hm : n ≤ m) : sq m p = true := by
  induction m with
  | zero => have : n = 0 := by omega
            subst this; exact h
  | succ m ih =>
    by_cases e : n = m + 1
    · subst e; exact h
    · exact sq_mono (ih (by omega))
mutual
def tl : P → Nat
  | .int _ => 50
  | .str z => 10 * z.length + 2
  | .lst ps => tlAll ps + 3
  | .tup ps => tlAll ps + 3
  | _ => 5
def tlAll : List P → Nat
  | [] => 0
  | p :: ps => tl p + 2 + tlAll ps
end
theorem tlAll_app : ∀ {xs ys : List P}, tlAll (xs ++ ys) = tlAll xs + tlAll ys
  | [], ys => by simp [tlAll]
  | x :: xs, ys => by simp [tlAll, tlAll_app (xs := xs)]; omega
theorem tlAll_sub : ∀ {xs ys : List P}, xs.Sublist ys → tlAll xs ≤ tlAll ys
  | _, _, .slnil => by simp
  | _, _, .cons a h => by have := tlAll_sub h; simp [tlAll]; omega
  | _, _, .cons₂ a h => by have := tlAll_sub h; simp [tlAll]; omega
theorem tlAll_bd {b : Nat} : ∀ {xs : List P}, (∀ x ∈ xs, tl x ≤ b) → tlAll xs ≤ xs.length * (b + 2)
  | [], _ => by simp [tlAll]
  | x :: xs, h => by
    have h1 := h x (List.mem_cons_self ..)
    have h2 := tlAll_bd (xs := xs) fun y hy => h y (List.mem_cons_of_mem _ hy)
    simp only [tlAll, List.length_cons, Nat.succ_mul]
    omega
theorem cut_sub {α : Type} {xs : List α} {lo hi : Option Int} : (Z.cutD xs lo hi).Sublist xs := by
  unfold Z.cutD
  exact (List.take_sublist _ _).trans (List.drop_sublist _ _)
theorem sum_shown {n : Nat} (ih : ∀ p, sq n p = true → ((py p).shown.length ≤ tl p ∧ (py p).showable = true)) : ∀ ps : List P, (∀ p ∈ ps, sq n p = true) → ((PyData.shownAll (pyAll ps)).map (·.length)).sum + 2 * (PyData.shownAll (pyAll ps)).length ≤ tlAll ps ∧ PyData.showableAll (pyAll ps) = true
  | [], _ => by simp [pyAll, PyData.shownAll, tlAll, PyData.showableAll]
  | p :: ps, h => by
    have h1 := ih p (h p (List.mem_cons_self ..))
    have h2 := sum_shown ih ps fun q hq => h q (List.mem_cons_of_mem _ hq)
    simp only [pyAll, PyData.shownAll, List.map_cons, List.sum_cons, List.length_cons, tlAll, PyData.showableAll, Bool.and_eq_true]
    exact ⟨by omega, h1.2, h2.2⟩
theorem log_lt {k : Nat} (h : k < 10 ^ 45) : k.log2 < 1920 := by
  by_cases h0 : k = 0
  · subst h0; decide
  · rw [Nat.log2_lt h0]
    exact Nat.lt_trans h (by decide)
theorem sq_shown : ∀ (n : Nat) (p : P), sq n p = true → ((py p).shown.length ≤ tl p ∧ (py p).showable = true) := by
  have base : ∀ (n : Nat) (p : P), (∀ xs, p ≠ .lst xs) → (∀ xs, p ≠ .tup xs) → sq n p = true → ((py p).shown.length ≤ tl p ∧ (py p).showable = true) := by
    intro n p h1 h2 h
    cases p with
    | non => exact ⟨by simp only [py, PyData.shown, tl]; decide, by simp [py, PyData.showable]⟩
    | bl b => exact ⟨by cases b <;> (simp only [py, PyData.shown, tl]; decide), by simp [py, PyData.showable]⟩
    | int i =>
      have hi : i.natAbs < 10 ^ 45 := by cases n <;> simpa [sq] using h
      have hs : (toString i).length ≤ 45 + 1 := int_text_length_le10 (by decide) hi
      refine ⟨?_, by simp only [py, PyData.showable, decide_eq_true_eq]; exact log_lt hi⟩
      simp only [py, PyData.shown, tl]
      have e : (Str.ofString (toString i)).length = (toString i).length := PySem.ofString_length _
      omega
    | str z =>
      have hz : chOk z = true ∧ z.length ≤ 1000 := by cases n <;> simpa [sq] using h
      refine ⟨?_, by simp [py, PyData.showable]⟩
      simp only [py, PyData.shown, tl]
      exact StrLaws.reprText_len z fun c hc => Nat.lt_trans (chOk_mem hz.1 c hc) (by decide)
    | lst xs => exact absurd rfl (h1 xs)
    | tup xs => exact absurd rfl (h2 xs)
    | _ => cases n <;> simp [sq] at h
  intro n
  induction n with
  | zero =>
    intro p h
    cases p with
    | lst xs => simp [sq] at h
    | tup xs => simp [sq] at h
    | _ => exact base 0 _ (by intros; exact fun h => nomatch h) (by intros; exact fun h => nomatch h) h
  | succ n ih =>
    intro p h
    cases p with
    | lst xs =>
      simp only [sq, Bool.and_eq_true, List.all_eq_true] at h
      obtain ⟨h1, h2⟩ := sum_shown ih xs h.2
      simp only [py, PyData.shown, tl, PyData.showable]
      exact ⟨by have := listText_len_le (PyData.shownAll (pyAll xs)); omega, h2⟩
    | tup xs =>
      simp only [sq, Bool.and_eq_true, List.all_eq_true] at h
      obtain ⟨h1, h2⟩ := sum_shown ih xs h.2
      simp only [py, PyData.shown, tl, PyData.showable]
      exact ⟨by have := tupleText_len_le (PyData.shownAll (pyAll xs)); omega, h2⟩
    | _ => exact base (n + 1) _ (by intros; exact fun h => nomatch h) (by intros; exact fun h => nomatch h) h
theorem sq_sh {n : Nat} {p : P} (h : sq n p = true) (ht : tl p ≤ 1000000) (hn : n ≤ 24 := by decide) : shOk p = true := by
  obtain ⟨h1, h2⟩ := sq_shown n p h
  unfold shOk
  rw [sm_dpt (sq_sm n p h) hn, h2, decide_eq_true (Nat.le_trans h1 ht)]
  rfl
theorem repr_ok {n : Nat} {p : P} (h : sq n p = true) (ht : tl p ≤ 1000000) (hn : n ≤ 24 := by decide) : reprP [p] = some (.str (py p).shown) := by
  simp only [reprP, if_pos (sq_sh h ht hn)]
theorem sq_lst {n : Nat} {xs : List P} (h : ∀ x ∈ xs, sq n x = true) (hl : xs.length ≤ 1000) : sq (n + 1) (.lst xs) = true := by
  simp only [sq, Bool.and_eq_true, List.all_eq_true, decide_eq_true_eq]
  exact ⟨hl, h⟩
/-! ### the characters of a shown text -/
theorem char_lt (c : Char) : c.toNat < 0x110000 := by
  have h : c.toNat < 0xd800 ∨ 0xdfff < c.toNat ∧ c.toNat < 0x110000 := c.valid
  omega
theorem chOk_ofString (s : String) : chOk (Str.ofString s) = true := chOk_of fun c hc => by
  unfold cs at hc
  rw [signs_ofString] at hc
  obtain ⟨d, _, rfl⟩ := List.mem_map.mp hc
  exact char_lt d
theorem reprChar_ok {q c : Nat} (hq : q < 0x110000) (hc : c < 0x110000) : ∀ x ∈ Builtin.Str.reprChar q c, x < 0x110000 := by
  have hx : ∀ w, ∀ x ∈ List.replicate (w - ((Nat.toDigits 16 c).map Char.toNat).length) 48 ++ (Nat.toDigits 16 c).map Char.toNat, x < 0x110000 := by
    intro w x hx
    rcases List.mem_append.mp hx with hx | hx
    · have := List.eq_of_mem_replicate hx; omega
    · obtain ⟨d, _, rfl⟩ := List.mem_map.mp hx
      exact char_lt d
  intro x h
  unfold Builtin.Str.reprChar at h
  dsimp only at h
  repeat' split at h
  · simp at h; omega
  · simp at h; omega
  · simp at h; omega
  · simp at h; omega
  · simp at h; omega
  · rcases List.mem_append.mp h with h | h
    · simp at h; omega
    · exact hx 2 x h
  · rcases List.mem_append.mp h with h | h
    · simp at h; omega
    · exact hx 4 x h
  · rcases List.mem_append.mp h with h | h
    · simp at h; omega
    · exact hx 8 x h
theorem foldl_repr_ok {q : Nat} (hq : q < 0x110000) : ∀ (l : List Nat) (acc : Array Nat), (∀ c ∈ l, c < 0x110000) → (∀ c ∈ acc.toList, c < 0x110000) → ∀ x ∈ (l.foldl (fun out c => out ++ (Builtin.Str.reprChar q c).toArray) acc).toList, x < 0x110000
  | [], acc, _, h => h
  | c :: r, acc, h, h' => by
    refine foldl_repr_ok hq r _ (fun d hd => h d (List.mem_cons_of_mem _ hd)) ?_
    intro x hx
    simp at hx
    rcases hx with hx | hx
    · exact h' x (by simpa using hx)
    · exact reprChar_ok hq (h c (List.mem_cons_self ..)) x hx
theorem reprText_ok {z : Str} (h : chOk z = true) : chOk (reprText z) = true := chOk_of fun c hc => by
  unfold reprText cs at hc
  have hq : reprQuote z < 0x110000 := by unfold reprQuote; split <;> omega
  rw [← Array.foldl_toList] at hc
  simp only [Array.toList_push, List.mem_append, List.mem_singleton] at hc
  rcases hc with hc | hc
  · exact foldl_repr_ok hq _ _ (chOk_mem h) (by intro x hx; simp at hx; omega) c hc
  · omega
theorem textFrom_ok : ∀ (ts : List Str) (k : Nat) (acc : Str), (∀ t ∈ ts, chOk t = true) → chOk acc = true → chOk (textFrom k acc ts) = true
  | [], _, _, _, h => h
  | t :: r, k, acc, h, h' => by
    unfold textFrom
    exact textFrom_ok r _ _ (fun d hd => h d (List.mem_cons_of_mem _ hd)) (chOk_append (chOk_append h' (chOk_ofString _)) (h t (List.mem_cons_self ..)))
theorem join_ok : ∀ (ts : List Str), (∀ t ∈ ts, chOk t = true) → chOk (Str.join ", " ts) = true
  | [], _ => by decide +kernel
  | [t], h => h t (List.mem_cons_self ..)
  | t :: u :: r, h => by
    show chOk (t ++ Str.ofString ", " ++ Str.join ", " (u :: r)) = true
    exact chOk_append (chOk_append (h t (List.mem_cons_self ..)) (chOk_ofString _)) (join_ok (u :: r) fun d hd => h d (List.mem_cons_of_mem _ hd))
mutual
theorem shown_ok : ∀ p : P, (∃ n, sq n p = true) → chOk (py p).shown = true
  | .non, _ => by simp only [py, PyData.shown]; exact chOk_ofString _
  | .bl b, _ => by simp only [py, PyData.shown]; cases b <;> exact chOk_ofString _
  | .int i, _ => by simp only [py, PyData.shown]; exact chOk_ofString _
  | .str z, h => by
    simp only [py, PyData.shown]
    refine reprText_ok ?_
    obtain ⟨n, h⟩ := h
    cases n <;> (simp [sq] at h; exact h.1)
  | .lst ps, h => by
    simp only [py, PyData.shown]
    unfold listText
    exact chOk_append (textFrom_ok _ _ _ (shownAll_ok ps fun p hp => by
      obtain ⟨n, h⟩ := h
      cases n with
      | zero => simp [sq] at h
      | succ n => simp [sq] at h; exact ⟨n, h.2 p hp⟩) (chOk_ofString _)) (chOk_ofString _)
  | .tup ps, h => by
    simp only [py, PyData.shown]
    unfold tupleText
    exact chOk_append (chOk_append (chOk_ofString _) (join_ok _ (shownAll_ok ps fun p hp => by
      obtain ⟨n, h⟩ := h
      cases n with
      | zero => simp [sq] at h
      | succ n => simp [sq] at h; exact ⟨n, h.2 p hp⟩))) (chOk_ofString _)
  | .dic _ _ _, _ => by simp only [py, PyData.shown]; exact chOk_ofString _
  | .ins _ _ _, _ => by simp only [py, PyData.shown]; exact chOk_ofString _
  | .glo _, _ => by simp only [py, PyData.shown]; exact chOk_ofString _
  | .ty _, _ => by simp only [py, PyData.shown]; exact chOk_ofString _
  | .scr _, _ => by simp only [py, PyData.shown]; exact chOk_ofString _
  | .exv _ _ _, _ => by simp only [py, PyData.shown]; exact chOk_ofString _
theorem shownAll_ok : ∀ ps : List P, (∀ p ∈ ps, ∃ n, sq n p = true) → ∀ t ∈ PyData.shownAll (pyAll ps), chOk t = true
  | [], _, t, h => by simp [pyAll, PyData.shownAll] at h
  | p :: ps, hp, t, h => by
    simp only [pyAll, PyData.shownAll, List.mem_cons] at h
    rcases h with rfl | h
    · exact shown_ok p (hp p (List.mem_cons_self ..))
    · exact shownAll_ok ps (fun q hq => hp q (List.mem_cons_of_mem _ hq)) t h
end
end Kw
namespace Z
open PySem PySem.Spec PyProof.Rows L2
theorem loop_i {F : Xc → Slots → Store → Prop} {N : Slots → Store → Prop} {T : D → Store → Prop} {eff : Eff} {mb : MS} {its : List P} (J : Nat → Slots → Store → Prop) (step : ∀ i q sl S, its[i]? = some q → J i sl S → ∃ sl1, eff q sl = some sl1 ∧ (mb sl1 S).sx F (J (i + 1)) T) (last : ∀ sl S, J its.length sl S → N sl S) {sl : Slots} {S : Store} (h0 : J 0 sl S) : (loop eff mb its sl S).sx F N T := by
  refine loop_sx (fun qs sl S => ∃ i, qs = its.drop i ∧ i ≤ its.length ∧ J i sl S) ?_ ?_ _ _ _ ⟨0, rfl, Nat.zero_le _, h0⟩
  · rintro q qs sl S ⟨i, e, hi, hJ⟩
    have hq : its[i]? = some q := by
      have := congrArg (·[0]?) e
      simpa using this.symm
    obtain ⟨hlt, _⟩ := List.getElem?_eq_some_iff.mp hq
    obtain ⟨sl1, e1, e2⟩ := step i q sl S hq hJ
    refine ⟨sl1, e1, e2.imp (fun sl S h => ⟨i + 1, ?_, hlt, h⟩) fun _ _ h => h⟩
    have := congrArg List.tail e
    simpa using this
  · rintro sl S ⟨i, e, hi, hJ⟩
    have : i = its.length := by
      have := congrArg List.length e
      simp at this
      omega
    subst this
    exact last sl S hJ
theorem rng_get {lo : Int} {n i : Nat} {q : P} (h : (rng lo n)[i]? = some q) : i < n ∧ q = .int (lo + (i : Int)) := by
  unfold rng at h
  rw [List.getElem?_map] at h
  cases hr : (List.range n)[i]? with
  | none => rw [hr] at h; cases h
  | some a =>
    rw [hr] at h
    obtain ⟨h1, h2⟩ := List.getElem?_eq_some_iff.mp hr
    simp at h1 h2
    subst h2
    cases h
    exact ⟨h1, rfl⟩
theorem loop_r {F : Xc → Slots → Store → Prop} {N : Slots → Store → Prop} {T : D → Store → Prop} {eff : Eff} {mb : MS} {lo : Int} {n : Nat} (J : Nat → Slots → Store → Prop) (step : ∀ i sl S, i < n → J i sl S → ∃ sl1, eff (.int (lo + (i : Int))) sl = some sl1 ∧ (mb sl1 S).sx F (J (i + 1)) T) (last : ∀ sl S, J n sl S → N sl S) {sl : Slots} {S : Store} (h0 : J 0 sl S) : (loop eff mb (rng lo n) sl S).sx F N T := by
  refine loop_i J (fun i q sl S hq hJ => ?_) (fun sl S h => last sl S (by simpa using h)) h0
  obtain ⟨hi, rfl⟩ := rng_get hq
  exact step i sl S hi hJ
theorem mapO_map {α β γ : Type} {f : α → Option β} {g : γ → α} {h : γ → β} (e : ∀ x, f (g x) = some (h x)) : ∀ xs : List γ, mapO f (xs.map g) = some (xs.map h)
  | [] => rfl
  | x :: xs => by simp only [List.map_cons, mapO, e, mapO_map e xs]
theorem loop_iR {F : Xc → Slots → Store → Prop} {N : Slots → Store → Prop} {T : D → Store → Prop} {eff : Eff} {mb : MS} {its : List P} (J : Nat → Slots → Store → Prop) (step : ∀ i q sl S, its[i]? = some q → J i sl S → ∃ sl1, eff q sl = some sl1 ∧ ∀ R : Slots → Store → Prop, (∀ sl S, J (i + 1) sl S → R sl S) → (mb sl1 S).sx F R T) (last : ∀ sl S, J its.length sl S → N sl S) {sl : Slots} {S : Store} (h0 : J 0 sl S) : (loop eff mb its sl S).sx F N T :=
  loop_i J (fun i q sl S hq hJ => let ⟨sl1, e, h⟩ := step i q sl S hq hJ; ⟨sl1, e, h _ fun _ _ h => h⟩) last h0
theorem loop_rR {F : Xc → Slots → Store → Prop} {N : Slots → Store → Prop} {T : D → Store → Prop} {eff : Eff} {mb : MS} {lo : Int} {n : Nat} (J : Nat → Slots → Store → Prop) (step : ∀ i sl S, i < n → J i sl S → ∃ sl1, eff (.int (lo + (i : Int))) sl = some sl1 ∧ ∀ R : Slots → Store → Prop, (∀ sl S, J (i + 1) sl S → R sl S) → (mb sl1 S).sx F R T) (last : ∀ sl S, J n sl S → N sl S) {sl : Slots} {S : Store} (h0 : J 0 sl S) : (loop eff mb (rng lo n) sl S).sx F N T :=
  loop_r J (fun i sl S hi hJ => let ⟨sl1, e, h⟩ := step i sl S hi hJ; ⟨sl1, e, h _ fun _ _ h => h⟩) last h0

end Z

namespace Kw
open PySem PySem.Spec PyProof.Rows L2 Z
def b_rest : MS := sSeq (sSet 7 (eL (aC (eAtE ["BadText"] "part" (eMkE "BadText" ["part", "index"] m_BadText (aC (eV 5) (aC (eV 6) (aN))))) (aC (eAtE ["BadText"] "index" (eMkE "BadText" ["part", "index"] m_BadText (aC (eV 5) (aC (eV 6) (aN))))) (aC (eAtE ["BadNote"] "line" (eMkE "BadNote" ["line"] m_BadNote (aC (eV 5) (aN)))) (aC (eAtE ["NoLaying"] "laying" (eMkE "NoLaying" ["laying"] m_NoLaying (aC (eV 5) (aN)))) (aN))))))) (sSeq (sSet 7 (eB opAdd (eV 7) (eL (aC (eAtE ["NoOrder"] "order" (eMkE "NoOrder" ["order"] m_NoOrder (aC (eV 5) (aN)))) (aC (eAtE ["Turned"] "pair" (eMkE "Turned" ["pair"] m_Turned (aC (eV 5) (aN)))) (aC (eAtE ["BadLoop"] "part" (eMkE "BadLoop" ["part"] m_BadLoop (aC (eV 5) (aN)))) (aC (eAtE ["BadCommand"] "command" (eMkE "BadCommand" ["command"] m_BadCommand (aC (eV 5) (aN)))) (aN)))))))) (sSeq (sIf (tB opNe (eF reprP (aC (eB opAdd (eV 7) (eL (aC (eAtE ["NoStep"] "index" (eMkE "NoStep" ["index"] m_NoStep (aC (eV 5) (aN)))) (aN)))) (aN))) (eF reprP (aC (eB opAdd (eL (aC (eV 5) (aC (eV 6) (aN)))) (eB opMul (eL (aC (eV 5) (aN))) (eK (.int 7)))) (aN)))) (sSeq (sRet (eK (.bl false))) (sNil)) (sNil)) (sSeq (sSet 8 (eL (aC (eMkE "BadText" ["part", "index"] m_BadText (aC (eV 5) (aC (eV 6) (aN)))) (aC (eMkE "BadNote" ["line"] m_BadNote (aC (eV 5) (aN))) (aC (eMkE "NoLaying" ["laying"] m_NoLaying (aC (eV 5) (aN))) (aC (eMkE "NoOrder" ["order"] m_NoOrder (aC (eV 5) (aN))) (aC (eMkE "Turned" ["pair"] m_Turned (aC (eV 5) (aN))) (aC (eMkE "BadLoop" ["part"] m_BadLoop (aC (eV 5) (aN))) (aN))))))))) (sSeq (sSet 8 (eB opAdd (eV 8) (eL (aC (eMkE "BadCommand" ["command"] m_BadCommand (aC (eV 5) (aN))) (aC (eMk0 "NothingDone") (aN)))))) (sSeq (sIf (tB opNe (eLc (iSeq (eV 8)) (effN 9) tYes (eCall 1 f_kinds (aC (eV 9) (aN))) [9]) (eLc (iR1 (eK (.int 8))) (effN 10) tYes (eT (aC (eL (aC (eV 10) (aN))) (aC (eL (aC (eK (.int 0)) (aC (eK (.int 1)) (aN)))) (aN)))) [10])) (sSeq (sRet (eK (.bl false))) (sNil)) (sNil)) (sSeq (sIf (tB opNe (eCall 1 f_kinds (aC (eMkE "NoStep" ["index"] m_NoStep (aC (eV 5) (aN))) (aN))) (eT (aC (eL (aC (eK (.int 8)) (aN))) (aC (eL (aC (eK (.int 2)) (aN))) (aN))))) (sSeq (sRet (eK (.bl false))) (sNil)) (sNil)) (sNil)))))))
def b_turn : MS := sSeq (sPar [5, 6] (aC (eIx (eV 3) (eCall 2 f_take (aC (eV 2) (aC (eK (.int 14)) (aN))))) (aC (eIx (eV 3) (eCall 2 f_take (aC (eV 2) (aC (eK (.int 14)) (aN))))) (aN)))) b_rest
def b_cell : MS := sSeq (sSet 2 (eCall 2 f_bag (aC (eV 0) (aC (eV 1) (aN))))) (sSeq (sSet 3 (eL (aC (eK .non) (aC (eK (.bl true)) (aC (eK (.int 0)) (aC (eU opNeg (eK (.int 1))) (aC (eB opPow (eK (.int 10)) (eK (.int 39))) (aC (eK (.str "")) (aC (eK (.str "steps")) (aC (eT (aN)) (aC (eT (aC (eK (.int 0)) (aC (eK (.int 1)) (aN)))) (aC (eL (aC (eK (.int 0)) (aN))) (aC (eT (aC (eK .non) (aC (eT (aC (eK (.str "p")) (aC (eK (.int 3)) (aN)))) (aN)))) (aC (eK (.str "pointers")) (aC (eK (.bl false)) (aC (eK (.int 12)) (aN))))))))))))))))) (sSeq (sFor (iR1 (eK (.int 6))) (effN 4) b_turn) (sNil)))
theorem law_is : b_law = sSeq (sFor (iR1 (eF maxP (aC (eK (.int 2)) (aC (eF minP (aC (eK (.int 6)) (aC (eF lenP (aC (eV 0) (aN))) (aN)))) (aN))))) (effN 1) b_cell) (sSeq (sRet (eB opEq (eCall 1 f_kinds (aC (eMk0 "KindError") (aN))) (eT (aC (eL (aN)) (aC (eL (aC (eK (.int 0)) (aC (eK (.int 1)) (aN)))) (aN)))))) (sNil)) := rfl
def somes : List P := [.non, .bl true, .int 0, .int (-1), .int (10 ^ 39), .str "", .str "steps", .tup [], .tup [.int 0, .int 1], .lst [.int 0], .tup [.non, .tup [.str "p", .int 3]], .str "pointers", .bl false, .int 12]
def told (a b : P) : D := .p (.lst [a, b, a, a, a, a, a, a])
def madesL (a b : P) : List P := [.exv "BadText" ["index", "part"] [b, a], .exv "BadNote" ["line"] [a], .exv "NoLaying" ["laying"] [a], .exv "NoOrder" ["order"] [a], .exv "Turned" ["pair"] [a], .exv "BadLoop" ["part"] [a], .exv "BadCommand" ["command"] [a], .exv "NothingDone" [] []]
def mades (a b : P) : D := .p (.lst (madesL a b))
def fmtQ (a : P) : Bool := match fmtG a with
  | some (.str z) => decide (z.length ≤ 100)
  | _ => false
theorem fmtQ_all : somes.all fmtQ = true := by decide +kernel
theorem fmt_ok {a : P} (h : a ∈ somes) : ∃ z : Str, fmtG a = some (.str z) ∧ z.length ≤ 100 := by
  have h1 := List.all_eq_true.mp fmtQ_all a h
  unfold fmtQ at h1
  split at h1
  · rename_i z e
    exact ⟨z, e, of_decide_eq_true h1⟩
  · cases h1
theorem sq_all : (somes.all fun a => sq 4 a && decide (tl a ≤ 1000)) = true := by decide +kernel
theorem sq_ok {a : P} (h : a ∈ somes) : sq 4 a = true ∧ tl a ≤ 1000 := by
  have h1 := List.all_eq_true.mp sq_all a h
  simpa using h1
abbrev kv (i : Int) : P := .tup [.lst [.int i], .lst [.int 0, .int 1]]
section
variable (S : Store) (ks : List Str) (ps : List P)
theorem k0 : f_kinds [.p (.exv "BadText" ks ps)] S = .ok (.p (kv 0)) S := by kernel_rfl
theorem k1 : f_kinds [.p (.exv "BadNote" ks ps)] S = .ok (.p (kv 1)) S := by kernel_rfl
theorem k2 : f_kinds [.p (.exv "NoLaying" ks ps)] S = .ok (.p (kv 2)) S := by kernel_rfl
theorem k3 : f_kinds [.p (.exv "NoOrder" ks ps)] S = .ok (.p (kv 3)) S := by kernel_rfl
theorem k4 : f_kinds [.p (.exv "Turned" ks ps)] S = .ok (.p (kv 4)) S := by kernel_rfl
theorem k5 : f_kinds [.p (.exv "BadLoop" ks ps)] S = .ok (.p (kv 5)) S := by kernel_rfl
theorem k6 : f_kinds [.p (.exv "BadCommand" ks ps)] S = .ok (.p (kv 6)) S := by kernel_rfl
theorem k7 : f_kinds [.p (.exv "NothingDone" ks ps)] S = .ok (.p (kv 7)) S := by kernel_rfl
theorem k8 : f_kinds [.p (.exv "NoStep" ks ps)] S = .ok (.p (.tup [.lst [.int 8], .lst [.int 2]])) S := by kernel_rfl
theorem k9 : f_kinds [.p (.exv "KindError" ks ps)] S = .ok (.p (.tup [.lst [], .lst [.int 0, .int 1]])) S := by kernel_rfl
end
theorem strOk_le {z : Str} {n : Nat} (h : z.length ≤ n) (hn : n ≤ 1000000) : z.length ≤ sizeLine := Nat.le_trans h (by rw [sizeLine_eq]; omega)
section
variable {a b : P} (s0 s1 s2 s3 s4 s7 s8 s9 s10 : Option D) (S : Store)
theorem js_cons {m : M} {ms : List M} {sl : Slots} {z acc : Str} (h : m sl S = .ok (.p (.str z)) S) (hl : (acc ++ z).length ≤ sizeLine) : jsL (m :: ms) acc sl S = jsL ms (acc ++ z) sl S := by
  simp only [jsL, h, Rs.bind, if_pos hl]
theorem fmt_at {sl : Slots} {i : Nat} {z : Str} (h : sl[i]? = some (some (.p a))) (e : fmtG a = some (.str z)) : eU fmtG (eV i) sl S = .ok (.p (.str z)) S := by
  simp only [eU, eV, h, Rs.bind, lift1, view, e]
theorem len_e : Str.empty.length = 0 := by decide +kernel
theorem m_note (ha : a ∈ somes) : ∃ z, m_BadNote [none, some (.p a), none] S = .ok (.p (.str z)) S := by
  obtain ⟨z, e, hz⟩ := fmt_ok ha
  have l1 : ("line " : Str).length = 5 := by decide +kernel
  have l2 : (" cannot stand here" : Str).length = 18 := by decide +kernel
  unfold m_BadNote eJs
  rw [js_cons (z := "line ") S rfl (strOk_le (n := 100) (by rw [len_append, len_e, l1]; omega) (by omega))]
  rw [js_cons S (fmt_at S rfl e) (strOk_le (n := 200) (by rw [len_append, len_append, len_e, l1]; omega) (by omega))]
  rw [js_cons (z := " cannot stand here") S rfl (strOk_le (n := 300) (by rw [len_append, len_append, len_append, len_e, l1, l2]; omega) (by omega))]
  exact ⟨_, rfl⟩
theorem m_loop (ha : a ∈ somes) : ∃ z, m_BadLoop [none, some (.p a), none] S = .ok (.p (.str z)) S := by
  obtain ⟨z, e, hz⟩ := fmt_ok ha
  have l1 : ("not valid: " : Str).length = 11 := by decide +kernel
  unfold m_BadLoop eJs
  rw [js_cons (z := "not valid: ") S rfl (strOk_le (n := 100) (by rw [len_append, len_e, l1]; omega) (by omega))]
  rw [js_cons S (fmt_at S rfl e) (strOk_le (n := 200) (by rw [len_append, len_append, len_e, l1]; omega) (by omega))]
  exact ⟨_, rfl⟩
theorem m_text (ha : a ∈ somes) (hb : b ∈ somes) : ∃ z, m_BadText [none, some (.p a), some (.p b), none] S = .ok (.p (.str z)) S := by
  obtain ⟨z, e, hz⟩ := fmt_ok ha
  obtain ⟨y, e', hy⟩ := fmt_ok hb
  have l1 : ("not valid: " : Str).length = 11 := by decide +kernel
  have l2 : (", entry " : Str).length = 8 := by decide +kernel
  unfold m_BadText eJs
  rw [js_cons (z := "not valid: ") S rfl (strOk_le (n := 100) (by rw [len_append, len_e, l1]; omega) (by omega))]
  rw [js_cons S (fmt_at S rfl e) (strOk_le (n := 200) (by rw [len_append, len_append, len_e, l1]; omega) (by omega))]
  rw [js_cons (z := ", entry ") S rfl (strOk_le (n := 300) (by rw [len_append, len_append, len_append, len_e, l1, l2]; omega) (by omega))]
  rw [js_cons S (fmt_at S rfl e') (strOk_le (n := 400) (by rw [len_append, len_append, len_append, len_append, len_e, l1, l2]; omega) (by omega))]
  exact ⟨_, rfl⟩
theorem mk_ok {c : Str} {fs : List Str} {m : M} {ma : MA} {sl : Slots} (ps : List P) (hma : ma sl S = .ok (ps.map .p) S) (hl : ps.length = fs.length) (hm : ∃ z, m (none :: (ps.map fun p => some (Z.D.p p)) ++ [none]) S = .ok (.p (.str z)) S) : eMkE c fs m ma sl S = .ok (.p (.exv c fs.reverse ps.reverse)) S := by
  obtain ⟨z, hz⟩ := hm
  unfold eMkE
  rw [hma]
  simp only [Rs.bind, pures_map, if_pos hl, hz]
abbrev slN (s0 s1 s2 s3 s4 : Option D) (a b : P) (s7 s8 s9 s10 : Option D) : Slots := [s0, s1, s2, s3, s4, some (.p a), some (.p b), s7, s8, s9, s10]
variable (ha : a ∈ somes) (hb : b ∈ somes)
include ha hb
theorem x_text : eMkE "BadText" ["part", "index"] m_BadText (aC (eV 5) (aC (eV 6) aN)) (slN s0 s1 s2 s3 s4 a b s7 s8 s9 s10) S = .ok (.p (.exv "BadText" ["index", "part"] [b, a])) S := mk_ok S [a, b] rfl rfl (m_text S ha hb)
theorem x_note : eMkE "BadNote" ["line"] m_BadNote (aC (eV 5) aN) (slN s0 s1 s2 s3 s4 a b s7 s8 s9 s10) S = .ok (.p (.exv "BadNote" ["line"] [a])) S := mk_ok S [a] rfl rfl (m_note S ha)
theorem x_loop : eMkE "BadLoop" ["part"] m_BadLoop (aC (eV 5) aN) (slN s0 s1 s2 s3 s4 a b s7 s8 s9 s10) S = .ok (.p (.exv "BadLoop" ["part"] [a])) S := mk_ok S [a] rfl rfl (m_loop S ha)
omit ha hb
theorem x_lay : eMkE "NoLaying" ["laying"] m_NoLaying (aC (eV 5) aN) (slN s0 s1 s2 s3 s4 a b s7 s8 s9 s10) S = .ok (.p (.exv "NoLaying" ["laying"] [a])) S := mk_ok S [a] rfl rfl ⟨_, rfl⟩
theorem x_order : eMkE "NoOrder" ["order"] m_NoOrder (aC (eV 5) aN) (slN s0 s1 s2 s3 s4 a b s7 s8 s9 s10) S = .ok (.p (.exv "NoOrder" ["order"] [a])) S := mk_ok S [a] rfl rfl ⟨_, rfl⟩
theorem x_turned : eMkE "Turned" ["pair"] m_Turned (aC (eV 5) aN) (slN s0 s1 s2 s3 s4 a b s7 s8 s9 s10) S = .ok (.p (.exv "Turned" ["pair"] [a])) S := mk_ok S [a] rfl rfl ⟨_, rfl⟩
theorem x_cmd : eMkE "BadCommand" ["command"] m_BadCommand (aC (eV 5) aN) (slN s0 s1 s2 s3 s4 a b s7 s8 s9 s10) S = .ok (.p (.exv "BadCommand" ["command"] [a])) S := mk_ok S [a] rfl rfl ⟨_, rfl⟩
theorem x_step : eMkE "NoStep" ["index"] m_NoStep (aC (eV 5) aN) (slN s0 s1 s2 s3 s4 a b s7 s8 s9 s10) S = .ok (.p (.exv "NoStep" ["index"] [a])) S := mk_ok S [a] rfl rfl ⟨_, rfl⟩
end
end Kw

namespace Kw
open PySem PySem.Spec PyProof.Rows L2 Z
def L1 : M := eL (aC (eAtE ["BadText"] "part" (eMkE "BadText" ["part", "index"] m_BadText (aC (eV 5) (aC (eV 6) (aN))))) (aC (eAtE ["BadText"] "index" (eMkE "BadText" ["part", "index"] m_BadText (aC (eV 5) (aC (eV 6) (aN))))) (aC (eAtE ["BadNote"] "line" (eMkE "BadNote" ["line"] m_BadNote (aC (eV 5) (aN)))) (aC (eAtE ["NoLaying"] "laying" (eMkE "NoLaying" ["laying"] m_NoLaying (aC (eV 5) (aN)))) (aN)))))
def L2 : M := eB opAdd (eV 7) (eL (aC (eAtE ["NoOrder"] "order" (eMkE "NoOrder" ["order"] m_NoOrder (aC (eV 5) (aN)))) (aC (eAtE ["Turned"] "pair" (eMkE "Turned" ["pair"] m_Turned (aC (eV 5) (aN)))) (aC (eAtE ["BadLoop"] "part" (eMkE "BadLoop" ["part"] m_BadLoop (aC (eV 5) (aN)))) (aC (eAtE ["BadCommand"] "command" (eMkE "BadCommand" ["command"] m_BadCommand (aC (eV 5) (aN)))) (aN))))))
def T1 : MT := tB opNe (eF reprP (aC (eB opAdd (eV 7) (eL (aC (eAtE ["NoStep"] "index" (eMkE "NoStep" ["index"] m_NoStep (aC (eV 5) (aN)))) (aN)))) (aN))) (eF reprP (aC (eB opAdd (eL (aC (eV 5) (aC (eV 6) (aN)))) (eB opMul (eL (aC (eV 5) (aN))) (eK (.int 7)))) (aN)))
def L3 : M := eL (aC (eMkE "BadText" ["part", "index"] m_BadText (aC (eV 5) (aC (eV 6) (aN)))) (aC (eMkE "BadNote" ["line"] m_BadNote (aC (eV 5) (aN))) (aC (eMkE "NoLaying" ["laying"] m_NoLaying (aC (eV 5) (aN))) (aC (eMkE "NoOrder" ["order"] m_NoOrder (aC (eV 5) (aN))) (aC (eMkE "Turned" ["pair"] m_Turned (aC (eV 5) (aN))) (aC (eMkE "BadLoop" ["part"] m_BadLoop (aC (eV 5) (aN))) (aN)))))))
def L4 : M := eB opAdd (eV 8) (eL (aC (eMkE "BadCommand" ["command"] m_BadCommand (aC (eV 5) (aN))) (aC (eMk0 "NothingDone") (aN))))
def T2 : MT := tB opNe (eLc (iSeq (eV 8)) (effN 9) tYes (eCall 1 f_kinds (aC (eV 9) (aN))) [9]) (eLc (iR1 (eK (.int 8))) (effN 10) tYes (eT (aC (eL (aC (eV 10) (aN))) (aC (eL (aC (eK (.int 0)) (aC (eK (.int 1)) (aN)))) (aN)))) [10])
def T3 : MT := tB opNe (eCall 1 f_kinds (aC (eMkE "NoStep" ["index"] m_NoStep (aC (eV 5) (aN))) (aN))) (eT (aC (eL (aC (eK (.int 8)) (aN))) (aC (eL (aC (eK (.int 2)) (aN))) (aN))))
theorem rest_is : b_rest = sSeq (sSet 7 L1) (sSeq (sSet 7 L2) (sSeq (sIf T1 (sSeq (sRet (eK (.bl false))) sNil) sNil) (sSeq (sSet 8 L3) (sSeq (sSet 8 L4) (sSeq (sIf T2 (sSeq (sRet (eK (.bl false))) sNil) sNil) (sSeq (sIf T3 (sSeq (sRet (eK (.bl false))) sNil) sNil) sNil)))))) := rfl
theorem eB_ok {f : P → P → Option P} {m1 m2 : M} {sl : Slots} {S : Store} {p q r : P} (h1 : m1 sl S = .ok (.p p) S) (h2 : m2 sl S = .ok (.p q) S) (hf : f p q = some r) : eB f m1 m2 sl S = .ok (.p r) S := by
  unfold eB
  rw [h1]
  simp only [Rs.bind, h2, lift2, view, hf]
theorem eF1_ok {f : List P → Option P} {m : M} {sl : Slots} {S : Store} {p r : P} (h : m sl S = .ok (.p p) S) (hf : f [p] = some r) : eF f (aC m aN) sl S = .ok (.p r) S := by
  unfold eF aC
  simp only [h, aN, Rs.bind, liftA, views, view, hf]
theorem at_ok {c f : Str} {cs ks : List Str} {ps : List P} {m : M} {sl : Slots} {r : D} {S : Store} (h : m sl S = .ok (.p (.exv c ks ps)) S) (hc : c ∈ cs) (hl : lookF ks (ps.map D.p) f = some r) : eAtE cs f m sl S = .ok r S := by
  unfold eAtE
  rw [h]
  simp only [Rs.bind, if_pos hc, hl]
theorem eL_ok {ma : MA} {sl : Slots} {S : Store} (ps : List P) (h : ma sl S = .ok (ps.map .p) S) (hl : ps.length ≤ 1000) : eL ma sl S = .ok (.p (.lst ps)) S := by
  unfold eL
  rw [h]
  simp only [Rs.bind, pures_map, if_pos (show ps.length ≤ sizeLine by rw [sizeLine_eq]; omega)]
theorem aC_ok {m : M} {ma : MA} {sl : Slots} {S : Store} {d : D} {ds : List D} (h1 : m sl S = .ok d S) (h2 : ma sl S = .ok ds S) : aC m ma sl S = .ok (d :: ds) S := by
  unfold aC
  rw [h1]
  simp only [Rs.bind, h2]
section
variable {a b : P} (s0 s1 s2 s3 s4 s7 s8 s9 s10 : Option D) (S : Store)
theorem l4 : L4 (slN s0 s1 s2 s3 s4 a b s7 (some (.p (.lst ((madesL a b).take 6)))) s9 s10) S = .ok (mades a b) S := by kernel_rfl
theorem t2 : T2 (slN s0 s1 s2 s3 s4 a b s7 (some (mades a b)) s9 s10) S = .ok false S := by kernel_rfl
theorem t3 : T3 (slN s0 s1 s2 s3 s4 a b s7 s8 s9 s10) S = .ok false S := by kernel_rfl
theorem seq_nx {m1 m2 : MS} {sl sl1 : Slots} {S S1 : Store} (h : m1 sl S = .nx sl1 S1) : sSeq m1 m2 sl S = m2 sl1 S1 := by
  unfold sSeq
  rw [h]
theorem set_nx {m : M} {i : Nat} {sl : Slots} {S S1 : Store} {d : D} (h : m sl S = .ok d S1) : sSet i m sl S = .nx (sl.set i (some d)) S1 := by
  unfold sSet
  rw [h]
  rfl
theorem if_nx {t : MT} {s1 : MS} {sl : Slots} {S S1 : Store} (h : t sl S = .ok false S1) : sIf t s1 sNil sl S = .nx sl S1 := by
  unfold sIf
  rw [h]
  rfl
end
section
variable {a b : P} (s0 s1 s2 s3 s4 s7 s8 s9 s10 : Option D) (S : Store) (ha : a ∈ somes) (hb : b ∈ somes)
include ha hb
theorem l1 : L1 (slN s0 s1 s2 s3 s4 a b s7 s8 s9 s10) S = .ok (.p (.lst [a, b, a, a])) S :=
  eL_ok [a, b, a, a] (aC_ok (at_ok (x_text s0 s1 s2 s3 s4 s7 s8 s9 s10 S ha hb) (List.mem_cons_self ..) (by kernel_rfl)) (aC_ok (at_ok (x_text s0 s1 s2 s3 s4 s7 s8 s9 s10 S ha hb) (List.mem_cons_self ..) (by kernel_rfl)) (aC_ok (at_ok (x_note s0 s1 s2 s3 s4 s7 s8 s9 s10 S ha hb) (List.mem_cons_self ..) (by kernel_rfl)) (aC_ok (at_ok (x_lay s0 s1 s2 s3 s4 s7 s8 s9 s10 S) (List.mem_cons_self ..) (by kernel_rfl)) rfl)))) (by simp)
theorem l3 : L3 (slN s0 s1 s2 s3 s4 a b s7 s8 s9 s10) S = .ok (.p (.lst ((madesL a b).take 6))) S := by
  simp only [L3, eL, aC, aN, x_text s0 s1 s2 s3 s4 s7 s8 s9 s10 S ha hb, x_note s0 s1 s2 s3 s4 s7 s8 s9 s10 S ha hb, x_lay s0 s1 s2 s3 s4 s7 s8 s9 s10 S, x_loop s0 s1 s2 s3 s4 s7 s8 s9 s10 S ha hb, x_order s0 s1 s2 s3 s4 s7 s8 s9 s10 S, x_turned s0 s1 s2 s3 s4 s7 s8 s9 s10 S, Rs.bind]
  kernel_rfl
theorem l2 : L2 (slN s0 s1 s2 s3 s4 a b (some (.p (.lst [a, b, a, a]))) s8 s9 s10) S = .ok (told a b) S := by
  have h : (eL (aC (eAtE ["NoOrder"] "order" (eMkE "NoOrder" ["order"] m_NoOrder (aC (eV 5) (aN)))) (aC (eAtE ["Turned"] "pair" (eMkE "Turned" ["pair"] m_Turned (aC (eV 5) (aN)))) (aC (eAtE ["BadLoop"] "part" (eMkE "BadLoop" ["part"] m_BadLoop (aC (eV 5) (aN)))) (aC (eAtE ["BadCommand"] "command" (eMkE "BadCommand" ["command"] m_BadCommand (aC (eV 5) (aN)))) (aN)))))) (slN s0 s1 s2 s3 s4 a b (some (.p (.lst [a, b, a, a]))) s8 s9 s10) S = .ok (.p (.lst [a, a, a, a])) S :=
    eL_ok [a, a, a, a] (aC_ok (at_ok (x_order s0 s1 s2 s3 s4 _ s8 s9 s10 S) (List.mem_cons_self ..) (by kernel_rfl)) (aC_ok (at_ok (x_turned s0 s1 s2 s3 s4 _ s8 s9 s10 S) (List.mem_cons_self ..) (by kernel_rfl)) (aC_ok (at_ok (x_loop s0 s1 s2 s3 s4 _ s8 s9 s10 S ha hb) (List.mem_cons_self ..) (by kernel_rfl)) (aC_ok (at_ok (x_cmd s0 s1 s2 s3 s4 _ s8 s9 s10 S) (List.mem_cons_self ..) (by kernel_rfl)) rfl)))) (by simp)
  exact eB_ok (p := .lst [a, b, a, a]) (q := .lst [a, a, a, a]) rfl h (by kernel_rfl)
/-- the list whose text is asked -/
abbrev nine (a b : P) : P := .lst [a, b, a, a, a, a, a, a, a]
theorem t1 : T1 (slN s0 s1 s2 s3 s4 a b (some (told a b)) s8 s9 s10) S = .ok false S := by
  obtain ⟨qa, la⟩ := sq_ok ha
  obtain ⟨qb, lb⟩ := sq_ok hb
  have hq : sq 5 (nine a b) = true := sq_lst (by simp [qa, qb]) (by simp)
  have ht : tl (nine a b) ≤ 1000000 := by
    simp only [nine, tl, tlAll]
    omega
  have hr := repr_ok hq ht
  have hc : chOk (py (nine a b)).shown = true := shown_ok _ ⟨5, hq⟩
  have h1 : eF reprP (aC (eB opAdd (eV 7) (eL (aC (eAtE ["NoStep"] "index" (eMkE "NoStep" ["index"] m_NoStep (aC (eV 5) (aN)))) (aN)))) (aN)) (slN s0 s1 s2 s3 s4 a b (some (told a b)) s8 s9 s10) S = .ok (.p (.str (py (nine a b)).shown)) S := by
    have e : eB opAdd (eV 7) (eL (aC (eAtE ["NoStep"] "index" (eMkE "NoStep" ["index"] m_NoStep (aC (eV 5) (aN)))) (aN))) (slN s0 s1 s2 s3 s4 a b (some (told a b)) s8 s9 s10) S = .ok (.p (nine a b)) S := by kernel_rfl
    exact eF1_ok e hr
  have h2 : eF reprP (aC (eB opAdd (eL (aC (eV 5) (aC (eV 6) (aN)))) (eB opMul (eL (aC (eV 5) (aN))) (eK (.int 7)))) (aN)) (slN s0 s1 s2 s3 s4 a b (some (told a b)) s8 s9 s10) S = .ok (.p (.str (py (nine a b)).shown)) S := by
    have e : eB opAdd (eL (aC (eV 5) (aC (eV 6) (aN)))) (eB opMul (eL (aC (eV 5) (aN))) (eK (.int 7))) (slN s0 s1 s2 s3 s4 a b (some (told a b)) s8 s9 s10) S = .ok (.p (nine a b)) S := by kernel_rfl
    exact eF1_ok e hr
  have h3 := eB_ok h1 h2 (opNe_ok (p := .str (py (nine a b)).shown) (q := .str (py (nine a b)).shown) hc hc)
  unfold T1 Z.tB
  rw [h3]
  simp [eqv, asB, Rs.bind]
theorem rest_eq : b_rest (slN s0 s1 s2 s3 s4 a b s7 s8 s9 s10) S = .nx (slN s0 s1 s2 s3 s4 a b (some (told a b)) (some (mades a b)) s9 s10) S := by
  have e1 : sSet 7 L1 (slN s0 s1 s2 s3 s4 a b s7 s8 s9 s10) S = .nx (slN s0 s1 s2 s3 s4 a b (some (.p (.lst [a, b, a, a]))) s8 s9 s10) S := set_nx (l1 s0 s1 s2 s3 s4 s7 s8 s9 s10 S ha hb)
  have e2 : sSet 7 L2 (slN s0 s1 s2 s3 s4 a b (some (.p (.lst [a, b, a, a]))) s8 s9 s10) S = .nx (slN s0 s1 s2 s3 s4 a b (some (told a b)) s8 s9 s10) S := set_nx (l2 s0 s1 s2 s3 s4 s8 s9 s10 S ha hb)
  have e3 : sSet 8 L3 (slN s0 s1 s2 s3 s4 a b (some (told a b)) s8 s9 s10) S = .nx (slN s0 s1 s2 s3 s4 a b (some (told a b)) (some (.p (.lst ((madesL a b).take 6)))) s9 s10) S := set_nx (l3 s0 s1 s2 s3 s4 _ s8 s9 s10 S ha hb)
  have e4 : sSet 8 L4 (slN s0 s1 s2 s3 s4 a b (some (told a b)) (some (.p (.lst ((madesL a b).take 6)))) s9 s10) S = .nx (slN s0 s1 s2 s3 s4 a b (some (told a b)) (some (mades a b)) s9 s10) S := set_nx (l4 s0 s1 s2 s3 s4 _ s9 s10 S)
  rw [rest_is, seq_nx e1, seq_nx e2, seq_nx (if_nx (t1 s0 s1 s2 s3 s4 s8 s9 s10 S ha hb)), seq_nx e3, seq_nx e4, seq_nx (if_nx (t2 s0 s1 s2 s3 s4 _ s9 s10 S)), seq_nx (if_nx (t3 s0 s1 s2 s3 s4 _ _ s9 s10 S))]
  rfl
end
end Kw

namespace Kw
open PySem PySem.Spec PyProof.Rows L2 Z
theorem draw_sat {sl : Slots} {S : Store} {n : Nat} {E : Xc → Store → Prop} {Q : D → Store → Prop} (hb : Bag S n) (h2 : sl[2]? = some (some (.ref n))) (h3 : sl[3]? = some (some (.p (.lst somes)))) (k : ∀ a S', a ∈ somes → Upd n S S' → Q (.p a) S') :
    (eIx (eV 3) (eCall 2 f_take (aC (eV 2) (aC (eK (.int 14)) (aN)))) sl S).sx E Q := by
  have hl : (somes.length : Int) = 14 := rfl
  simp [h2, h3]
  refine take_raw hb (by omega) (by omega) fun d S' h0 h1 u => ?_
  obtain ⟨v, e, hv⟩ := at_lt (xs := somes) h0 (by omega)
  simp only [ix_pp, ixP, e, opt_some]
  exact k v S' hv u
theorem law_true (ns : List Int) (hn : ns.length ≤ 63) : ∃ S, f_law [.p (.scr ns)] [] = .ok (.p (.bl true)) S := by
  have main : (f_law [.p (.scr ns)] []).sx noE fun d _ => d = .p (.bl true) := by
    unfold f_law
    rw [law_is]
    refine runB_by fun F N _ _ => ?_
    refine seq_by (fun sl S1 => ∃ b : Slots, b.length = 10 ∧ sl = some (.p (.scr ns)) :: b) ?_ ?_
    · intro R hR
      simp [List.replicate]
      refine ⟨by split <;> split <;> omega, ?_⟩
      refine loop_rR (fun j sl S1 => ∃ b : Slots, b.length = 10 ∧ sl = some (.p (.scr ns)) :: b) ?_ (fun sl S1 h => hR _ _ h) ⟨_, rfl, rfl⟩
      rintro j sl S hj ⟨b, hb, rfl⟩
      have hj6 : j < 64 := by
        revert hj
        split <;> split <;> omega
      obtain ⟨a1, a2, a3, a4, a5, a6, a7, a8, a9, a10, rfl⟩ : ∃ a1 a2 a3 a4 a5 a6 a7 a8 a9 a10, b = [a1, a2, a3, a4, a5, a6, a7, a8, a9, a10] := by
        match b, hb with
        | [a1, a2, a3, a4, a5, a6, a7, a8, a9, a10], _ => exact ⟨_, _, _, _, _, _, _, _, _, _, rfl⟩
      refine ⟨_, rfl, fun R hR => ?_⟩
      unfold b_cell
      refine set_by (fun d S1 => ∃ g m : Int, 0 ≤ g ∧ 0 ≤ m ∧ m < 2147483648 ∧ d = .ref S.length ∧ S1 = S ++ [bagC g m]) ?_ ?_
      · intro R hR
        simp
        exact bag_sat (by omega) (by omega) fun g m h1 h2 h3 => hR _ _ ⟨g, m, h1, h2, h3, rfl, rfl⟩
      rintro _ _ ⟨g, m, hg, hm, hm', rfl, rfl⟩
      have hb : Bag (S ++ [bagC g m]) S.length := ⟨g, m, by simp, hg, hm, hm'⟩
      generalize S ++ [bagC g m] = S0 at hb
      generalize S.length = n at hb
      simp only [List.set, Int.zero_add]
      refine set_by (fun d S1 => d = .p (.lst somes) ∧ S1 = S0) (fun R hR => ?_) ?_
      · have e : ∀ sl, eL (aC (eK .non) (aC (eK (.bl true)) (aC (eK (.int 0)) (aC (eU opNeg (eK (.int 1))) (aC (eB opPow (eK (.int 10)) (eK (.int 39))) (aC (eK (.str "")) (aC (eK (.str "steps")) (aC (eT (aN)) (aC (eT (aC (eK (.int 0)) (aC (eK (.int 1)) (aN)))) (aC (eL (aC (eK (.int 0)) (aN))) (aC (eT (aC (eK .non) (aC (eT (aC (eK (.str "p")) (aC (eK (.int 3)) (aN)))) (aN)))) (aC (eK (.str "pointers")) (aC (eK (.bl false)) (aC (eK (.int 12)) (aN))))))))))))))) sl S0 = .ok (.p (.lst somes)) S0 := fun sl => by kernel_rfl
        rw [e, sx_ok]
        exact hR _ _ ⟨rfl, rfl⟩
      rintro _ _ ⟨rfl, rfl⟩
      simp only [List.set]
      rw [w_seq, w_for, w_iR1, w_k]
      simp only [w_asI, viewP]
      refine ⟨by decide, ?_⟩
      refine loop_rR (fun i sl S1 => Bag S1 n ∧ ∃ a4 a5 a6 a7 a8 a9 a10, sl = [some (.p (.scr ns)), some (.p (.int (j : Int))), some (.ref n), some (.p (.lst somes)), a4, a5, a6, a7, a8, a9, a10]) ?_ ?_ ⟨hb, _, _, _, _, _, _, _, rfl⟩
      · clear hb
        rintro i sl S1 hi ⟨hb, a4, a5, a6, a7, a8, a9, a10, rfl⟩
        refine ⟨_, rfl, fun R hR => ?_⟩
        simp only [List.set, Int.zero_add]
        unfold b_turn
        refine seq_by (fun sl S2 => Bag S2 n ∧ ∃ a b, a ∈ somes ∧ b ∈ somes ∧ sl = slN (some (.p (.scr ns))) (some (.p (.int (j : Int)))) (some (.ref n)) (some (.p (.lst somes))) (some (.p (.int (i : Int)))) a b a7 a8 a9 a10) (fun R hR => ?_) ?_
        · rw [w_par, w_aC]
          refine draw_sat hb rfl rfl fun a S2 ha u2 => ?_
          rw [w_aC]
          refine draw_sat (u2.bag hb) rfl rfl fun b S3 hb' u3 => ?_
          rw [w_aN]
          refine ⟨rfl, hR _ _ ⟨u3.bag (u2.bag hb), a, b, ha, hb', rfl⟩⟩
        rintro _ S2 ⟨b2, a, b, ha, hb', rfl⟩
        rw [rest_eq _ _ _ _ _ _ _ _ _ S2 ha hb', fsx_nx]
        exact hR _ _ ⟨b2, _, _, _, _, _, _, _, rfl⟩
      · rintro sl S1 ⟨_, a4, a5, a6, a7, a8, a9, a10, rfl⟩
        simp
        exact hR _ _ ⟨_, rfl, rfl⟩
    · rintro sl S1 ⟨b, hb, rfl⟩
      have e : ∀ sl, eB opEq (eCall 1 f_kinds (aC (eMk0 "KindError") (aN))) (eT (aC (eL (aN)) (aC (eL (aC (eK (.int 0)) (aC (eK (.int 1)) (aN)))) (aN)))) sl S1 = .ok (.p (.bl true)) S1 := fun sl => by kernel_rfl
      rw [w_seq, w_ret, e, sx_ok]
  obtain ⟨d, S, e, rfl⟩ := main.ok
  exact ⟨S, e⟩
end Kw

namespace Kw
open PySem PySem.Spec PyProof.Rows L2 Z
theorem tx_of {w : World} {K : PySem.W.Frag} {h : Heap} {mg : Str → Option Value} (X : K.In h) (G : h.Ns mainGlobals mg) (cX : SaysX fa ts fn ex sn w K) (c : SaysZ fa ts fn ex w K) : Tx PG w K mg where
  f_bag := ⟨c.def_ 0 (d := d_bag) rfl, He.glo_ok X G (c.fact 0 (f := .glo "_law_bag") rfl)⟩
  g_bag := He.glo_ok X G (c.fact 0 (f := .glo "_law_bag") rfl)
  f_kinds := ⟨c.def_ 1 (d := d_kinds) rfl, He.glo_ok X G (c.fact 1 (f := .glo "_law_kinds") rfl)⟩
  g_kinds := He.glo_ok X G (c.fact 1 (f := .glo "_law_kinds") rfl)
  f_take := ⟨c.def_ 2 (d := d_take) rfl, He.glo_ok X G (c.fact 2 (f := .glo "_law_take") rfl)⟩
  g_take := He.glo_ok X G (c.fact 2 (f := .glo "_law_take") rfl)
  f_law := ⟨c.def_ 3 (d := d_law) rfl, He.glo_ok X G (c.fact 3 (f := .glo "law") rfl)⟩
  g_law := He.glo_ok X G (c.fact 3 (f := .glo "law") rfl)
  ptop := by decide +kernel
  g_KindError := He.glo_ok X G (c.fact 4 (f := .glo "KindError") rfl)
  g_BadText := He.glo_ok X G (c.fact 5 (f := .glo "BadText") rfl)
  g_BadNote := He.glo_ok X G (c.fact 6 (f := .glo "BadNote") rfl)
  g_NoLaying := He.glo_ok X G (c.fact 7 (f := .glo "NoLaying") rfl)
  g_NoOrder := He.glo_ok X G (c.fact 8 (f := .glo "NoOrder") rfl)
  g_Turned := He.glo_ok X G (c.fact 9 (f := .glo "Turned") rfl)
  g_BadLoop := He.glo_ok X G (c.fact 10 (f := .glo "BadLoop") rfl)
  g_BadCommand := He.glo_ok X G (c.fact 11 (f := .glo "BadCommand") rfl)
  g_NothingDone := He.glo_ok X G (c.fact 12 (f := .glo "NothingDone") rfl)
  g_NoStep := He.glo_ok X G (c.fact 13 (f := .glo "NoStep") rfl)
  b_abs := He.free_ok X G (c.fact 14 (f := .free "abs") rfl)
  b_len := He.free_ok X G (c.fact 15 (f := .free "len") rfl)
  b_int := He.free_ok X G (c.fact 16 (f := .free "int") rfl)
  b_isinstance := He.free_ok X G (c.fact 17 (f := .free "isinstance") rfl)
  b_ValueError := He.free_ok X G (c.fact 18 (f := .free "ValueError") rfl)
  b_IndexError := He.free_ok X G (c.fact 19 (f := .free "IndexError") rfl)
  b_KeyError := He.free_ok X G (c.fact 20 (f := .free "KeyError") rfl)
  b_RuntimeError := He.free_ok X G (c.fact 21 (f := .free "RuntimeError") rfl)
  b_enumerate := He.free_ok X G (c.fact 22 (f := .free "enumerate") rfl)
  b_range := He.free_ok X G (c.fact 23 (f := .free "range") rfl)
  b_max := He.free_ok X G (c.fact 24 (f := .free "max") rfl)
  b_min := He.free_ok X G (c.fact 25 (f := .free "min") rfl)
  b_repr := He.free_ok X G (c.fact 26 (f := .free "repr") rfl)
  b_super := He.free_ok X G (c.fact 27 (f := .free "super") rfl)
  e0_KindError := (He.ba c.ok.2).1
  k_KindError := (He.ba (He.ba c.ok.2).2).1
  e0_NothingDone := (He.ba (He.ba (He.ba c.ok.2).2).2).1
  k_NothingDone := (He.ba (He.ba (He.ba (He.ba c.ok.2).2).2).2).1
  xv_BadText_part := xfOk_of ((He.ba (He.ba (He.ba (He.ba (He.ba c.ok.2).2).2).2).2).1)
  xv_BadText_index := xfOk_of ((He.ba (He.ba (He.ba (He.ba (He.ba (He.ba c.ok.2).2).2).2).2).2).1)
  xv_BadNote_line := xfOk_of ((He.ba (He.ba (He.ba (He.ba (He.ba (He.ba (He.ba c.ok.2).2).2).2).2).2).2).1)
  xv_NoLaying_laying := xfOk_of ((He.ba (He.ba (He.ba (He.ba (He.ba (He.ba (He.ba (He.ba c.ok.2).2).2).2).2).2).2).2).1)
  xv_NoOrder_order := xfOk_of ((He.ba (He.ba (He.ba (He.ba (He.ba (He.ba (He.ba (He.ba (He.ba c.ok.2).2).2).2).2).2).2).2).2).1)
  xv_Turned_pair := xfOk_of ((He.ba (He.ba (He.ba (He.ba (He.ba (He.ba (He.ba (He.ba (He.ba (He.ba c.ok.2).2).2).2).2).2).2).2).2).2).1)
  xv_BadLoop_part := xfOk_of ((He.ba (He.ba (He.ba (He.ba (He.ba (He.ba (He.ba (He.ba (He.ba (He.ba (He.ba c.ok.2).2).2).2).2).2).2).2).2).2).2).1)
  xv_BadCommand_command := xfOk_of ((He.ba (He.ba (He.ba (He.ba (He.ba (He.ba (He.ba (He.ba (He.ba (He.ba (He.ba (He.ba c.ok.2).2).2).2).2).2).2).2).2).2).2).2).1)
  xv_NoStep_index := xfOk_of ((He.ba (He.ba (He.ba (He.ba (He.ba (He.ba (He.ba (He.ba (He.ba (He.ba (He.ba (He.ba (He.ba c.ok.2).2).2).2).2).2).2).2).2).2).2).2).2).1)
  s_BadText := supC_of PySem.F.excBase_ValueError PySem.W.kxs_ValueError PySem.F.store_ValueError rfl (cX.sup 0 (d := d_BadText_init) rfl) ((He.ba (He.ba (He.ba (He.ba (He.ba (He.ba (He.ba (He.ba (He.ba (He.ba (He.ba (He.ba (He.ba (He.ba c.ok.2).2).2).2).2).2).2).2).2).2).2).2).2).2).1)
  s_BadNote := supC_of PySem.F.excBase_ValueError PySem.W.kxs_ValueError PySem.F.store_ValueError rfl (cX.sup 1 (d := d_BadNote_init) rfl) ((He.ba (He.ba (He.ba (He.ba (He.ba (He.ba (He.ba (He.ba (He.ba (He.ba (He.ba (He.ba (He.ba (He.ba (He.ba c.ok.2).2).2).2).2).2).2).2).2).2).2).2).2).2).2).1)
  s_NoLaying := supC_of PySem.F.excBase_ValueError PySem.W.kxs_ValueError PySem.F.store_ValueError rfl (cX.sup 2 (d := d_NoLaying_init) rfl) ((He.ba (He.ba (He.ba (He.ba (He.ba (He.ba (He.ba (He.ba (He.ba (He.ba (He.ba (He.ba (He.ba (He.ba (He.ba (He.ba c.ok.2).2).2).2).2).2).2).2).2).2).2).2).2).2).2).2).1)
  s_NoOrder := supC_of PySem.F.excBase_ValueError PySem.W.kxs_ValueError PySem.F.store_ValueError rfl (cX.sup 3 (d := d_NoOrder_init) rfl) ((He.ba (He.ba (He.ba (He.ba (He.ba (He.ba (He.ba (He.ba (He.ba (He.ba (He.ba (He.ba (He.ba (He.ba (He.ba (He.ba (He.ba c.ok.2).2).2).2).2).2).2).2).2).2).2).2).2).2).2).2).2).1)
  s_Turned := supC_of PySem.F.excBase_ValueError PySem.W.kxs_ValueError PySem.F.store_ValueError rfl (cX.sup 4 (d := d_Turned_init) rfl) ((He.ba (He.ba (He.ba (He.ba (He.ba (He.ba (He.ba (He.ba (He.ba (He.ba (He.ba (He.ba (He.ba (He.ba (He.ba (He.ba (He.ba (He.ba c.ok.2).2).2).2).2).2).2).2).2).2).2).2).2).2).2).2).2).2).1)
  s_BadLoop := supC_of PySem.F.excBase_ValueError PySem.W.kxs_ValueError PySem.F.store_ValueError rfl (cX.sup 5 (d := d_BadLoop_init) rfl) ((He.ba (He.ba (He.ba (He.ba (He.ba (He.ba (He.ba (He.ba (He.ba (He.ba (He.ba (He.ba (He.ba (He.ba (He.ba (He.ba (He.ba (He.ba (He.ba c.ok.2).2).2).2).2).2).2).2).2).2).2).2).2).2).2).2).2).2).2).1)
  s_BadCommand := supC_of PySem.F.excBase_ValueError PySem.W.kxs_ValueError PySem.F.store_ValueError rfl (cX.sup 6 (d := d_BadCommand_init) rfl) ((He.ba (He.ba (He.ba (He.ba (He.ba (He.ba (He.ba (He.ba (He.ba (He.ba (He.ba (He.ba (He.ba (He.ba (He.ba (He.ba (He.ba (He.ba (He.ba (He.ba c.ok.2).2).2).2).2).2).2).2).2).2).2).2).2).2).2).2).2).2).2).2).1)
  s_NoStep := supC_of PySem.F.excBase_IndexError PySem.W.kxs_IndexError PySem.F.store_IndexError rfl (cX.sup 7 (d := d_NoStep_init) rfl) ((He.ba (He.ba (He.ba (He.ba (He.ba (He.ba (He.ba (He.ba (He.ba (He.ba (He.ba (He.ba (He.ba (He.ba (He.ba (He.ba (He.ba (He.ba (He.ba (He.ba (He.ba c.ok.2).2).2).2).2).2).2).2).2).2).2).2).2).2).2).2).2).2).2).2).2).1)
  xis_ := xis_of ((He.ba (He.ba (He.ba (He.ba (He.ba (He.ba (He.ba (He.ba (He.ba (He.ba (He.ba (He.ba (He.ba (He.ba (He.ba (He.ba (He.ba (He.ba (He.ba (He.ba (He.ba (He.ba c.ok.2).2).2).2).2).2).2).2).2).2).2).2).2).2).2).2).2).2).2).2).2).2).1) ((He.ba (He.ba (He.ba (He.ba (He.ba (He.ba (He.ba (He.ba (He.ba (He.ba (He.ba (He.ba (He.ba (He.ba (He.ba (He.ba (He.ba (He.ba (He.ba (He.ba (He.ba (He.ba c.ok.2).2).2).2).2).2).2).2).2).2).2).2).2).2).2).2).2).2).2).2).2).2).2)
theorem facts {w : World} {K : PySem.W.Frag} {h : Heap} {mg : Str → Option Value} {f : Addr} (X : K.In h) (G : h.Ns mainGlobals mg) (hfa : mg ("law" : Str) = some (.ref f)) (c : SaysX fa ts fn ex sn w K) :
    ∃ fd : FuncData, (∀ (s : Shared) (v : Value), BindsTo s fd ⟨[v], []⟩ [("_law_script", v)]) ∧ ∀ base : Heap, FnG PG w K mg base (L2.CX PG w) 3 f fd ["_law_script"] (spF ⟨K, PG, w⟩ 1 f_law) := by
  have T := tx_of X G c c.z
  obtain ⟨⟨fd, Fu⟩, e1⟩ := T.f_law
  have e := hfa.symm.trans e1
  cases e
  have b := FunD.bindsA (ps := ["_law_script"]) Fu bi_law
  refine ⟨fd, fun s v => b s [v] rfl, fun base => ?_⟩
  obtain ⟨fd', h1, h2, h3, h4, oc', od', osl', lk'⟩ := ok_law (P := PG) (w := w) (base := base) T
  obtain ⟨oc, od, _, _, _, _, _, _, _, osl, _, lk, _⟩ := Fu.ex
  rw [lk] at lk'
  cases lk'
  exact h1
end Kw
open PySem PySem.W PySem.Calls PyProof.Rows
theorem Kw.fin (law_true : ∀ ns : List Int, ns.length ≤ 63 → ∃ S, Kw.f_law [.p (.scr ns)] [] = .ok (.p (.bl true)) S) : PySem.Challenge.rw_lastkind_k08_errors_made.Holds := by
  w_on; o_law
  refine HandSHeadRun.head_any (r := OpenLaw.row PySem.Challenge.rw_lastkind_k08_errors_made) (q := view (OpenLaw.row PySem.Challenge.rw_lastkind_k08_errors_made).prog [15]) (H := Kw.hk) (ob := Kw.ob) (M := 12000) (loose := Kw.loose) (d := HandSHeadRun.topDef (OpenLaw.row PySem.Challenge.rw_lastkind_k08_errors_made).prog 15) (kwd := []) Kw.ob_eq
    (by kernel_rfl) (fun s => by kernel_rfl) Kw.run (by kernel_rfl) (by kernel_rfl) (by kernel_rfl) (by rfl) (by first | assumption | decide +kernel) (by decide +kernel) ⟨rfl, rfl, rfl, rfl, rfl, by decide +kernel⟩ ?hw ?hc
  case hw => w_witness2
  case hc =>
    refine Z.walk_ofG (l := PySem.Challenge.rw_lastkind_k08_errors_made) (n := 63) (k := 3) (x := "_law_script") (f := Kw.f_law) rfl (by decide) (by kernel_rfl) ⟨rfl, by decide, by decide⟩ ?F law_true
    intro w mg fa h Y G hmg0
    obtain ⟨K, KX, c⟩ := Y
    have hmg : mg ("law" : PySem.Str) = some (.ref fa) := by
      have e : (HandSHeadRun.topDef (OpenLaw.row PySem.Challenge.rw_lastkind_k08_errors_made).prog 15).name = ("law" : PySem.Str) := by kernel_rfl
      rw [← e]
      exact hmg0
    obtain ⟨fd, hb, hF⟩ := Kw.facts (w := w) KX G hmg c
    exact ⟨K, fd, KX, hb, hF⟩



theorem PySem.Challenge.cw_lastkind_k08_errors_made_holds : PySem.Challenge.rw_lastkind_k08_errors_made.Holds :=
  Kw.fin Kw.law_true
