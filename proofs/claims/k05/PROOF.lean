import PyProof.Rows.All
import Wide.All
import OpenK.AllK
import Wide.FinOn
import HandS.ForMost
import HandS.ForExc
import HandS.Flow
import HandS.IsInst
import HandS.Defaults
import HandS.Steps
import HandS.Style
import HandS.Head0
import HandS.Head1
import HandS.Head2
import HandS.HeadHook1
import HandS.HeadHook2
import HandS.HeadEnd
import HandS.More
import KE.KeyNested
import PyProof.DictMoreH
import HandS.Deep
import HandS.TupAny
import HandS.Zip
import HandS.Rev
import KE.GoesEnum
import HandS.Spec
import HandS.SetKeys
import HandS.CallSlots
import HandS.Ends
import HandS.HeadHook3
import HandS.HeadHook4
import PyProof.ReprRoads
import PyProof.ReprLen
import PyProof.StrLawsRepr
import PyProof.FitsInt
import HandS.CallLocal
import HandS.Text
import HandS.FStr
import KE.KUnpack
import PyProof.RulesMatchSeq
import PyProof.Rows.MatchSeqLen
import PyProof.InstNe
import HandS.ClsMeth
import HandS.TryOnly
import HandS.HeadNt
import HandS.RaiseMore
import KE.IntTextLaws
import PySem.Challenge.RW_lastkind_k05_notes_there_and_back
set_option Elab.async false
set_option linter.all false
set_option maxRecDepth 100000
set_option maxHeartbeats 0
namespace Z
open PySem PySem.Spec PyProof.Rows L2

/-- what does not change through a law's run: the written part, the program, the world -/
structure Fr where
  K : PySem.W.Frag
  pg : Program
  w : World
/-! ### the weakest readings -/
def ED (X : Cx) (e : Expr) : TE := fun σ H Q => ∀ (pins : List (Addr × Obj)) (s : Shared), Inv X pins σ H s → wpAny (model X.prog X.w) X.A (eval e X.env) (EP X pins σ Q) X.xe s
def TD (X : Cx) (e : Expr) : TT := fun σ H Q => ∀ (pins : List (Addr × Obj)) (s : Shared), Inv X pins σ H s → wpAny (model X.prog X.w) X.A (isTrue e X.env (eval e X.env)) (TP X pins σ Q) X.xe s
def WD (X : Cx) (e : Expr) : TT := fun σ H Q => ∀ (whole : Sem Value) (pins : List (Addr × Obj)) (s : Shared), Inv X pins σ H s → wpAny (model X.prog X.w) X.A (isTrue e X.env whole) (TP X pins σ Q) X.xe s
def AD (X : Cx) (es : List Expr) : TA := fun σ H Q => ∀ (pos : Pos) (pins : List (Addr × Obj)) (s : Shared), Inv X pins σ H s → wpAny (model X.prog X.w) X.A (spliced (backTo pos (starEach es X.env))) (AP X pins σ Q) X.xe s
def SD1 (X : Cx) (st : Stmt) : TS := fun D σ H => ∀ (pins : List (Addr × Obj)) (s : Shared), Inv X pins σ H s → wpAny (model X.prog X.w) X.A (exec st X.env) (SP X pins D) X.xe s
def SD (X : Cx) (ss : List Stmt) : TS := fun D σ H => ∀ (pins : List (Addr × Obj)) (s : Shared), Inv X pins σ H s → wpAny (model X.prog X.w) X.A (execs ss X.env) (SP X pins D) X.xe s
section
variable {X : Cx} {e : Expr} {es : List Expr} {st : Stmt} {ss : List Stmt} {σ : L2.St} {H : Hp}
theorem pe_d : PE X e (ED X e) := ⟨fun pins s _ _ _ I h => h pins s I⟩
theorem pt_d : PT X e (TD X e) := ⟨fun pins s _ _ _ I h => h pins s I⟩
theorem pw_d : PW X e (WD X e) := ⟨fun whole pins s _ _ _ I h => h whole pins s I⟩
theorem pa_d : PA X es (AD X es) := ⟨fun pos pins s _ _ _ I h => h pos pins s I⟩
theorem ps_d : PS X st (SD1 X st) := ⟨fun pins s _ _ _ I h => h pins s I⟩
theorem pss_d : PSs X ss (SD X ss) := ⟨fun pins s _ _ _ I h => h pins s I⟩
theorem ED.of {t : TE} {Q : VK} (h : PE X e t) (q : t σ H Q) : ED X e σ H Q := fun pins s I => h.run pins s σ H Q I q
theorem TD.of {t : TT} {Q : Bool → Hp → Prop} (h : PT X e t) (q : t σ H Q) : TD X e σ H Q := fun pins s I => h.run pins s σ H Q I q
theorem WD.of {t : TT} {Q : Bool → Hp → Prop} (h : PW X e t) (q : t σ H Q) : WD X e σ H Q := fun whole pins s I => h.run whole pins s σ H Q I q
theorem AD.of {t : TA} {Q : List V → Hp → Prop} (h : PA X es t) (q : t σ H Q) : AD X es σ H Q := fun pos pins s I => h.run pos pins s σ H Q I q
theorem SD1.of {t : TS} {D : Ends} (h : PS X st t) (q : t D σ H) : SD1 X st D σ H := fun pins s I => h.run pins s σ H D I q
theorem SD.of {t : TS} {D : Ends} (h : PSs X ss t) (q : t D σ H) : SD X ss D σ H := fun pins s I => h.run pins s σ H D I q
end

/-! ### values: P stands still, ref is a live object of the store -/
inductive P where
  | non
  | bl (b : Bool)
  | int (i : Int)
  | str (z : Str)
  | tup (ps : List P)
  | lst (ps : List P)
  | dic (t : Bool) (ks ps : List P)
  | ins (c : Str) (ks : List Str) (ps : List P)
  | glo (x : Str)
  | ty (n : String)
  | scr (ns : List Int)
instance : Inhabited P := ⟨.non⟩
inductive D where
  | p (p : P)
  | ref (n : Nat)
instance : Inhabited D := ⟨.p .non⟩
inductive Cell where
  | lst (ds : List D)
  | dic (t : Bool) (ks : List P) (ds : List D)
  | ins (c : Str) (ks : List Str) (ds : List D)
  | dead
abbrev Store := List Cell
abbrev Slots := List (Option D)
structure Xc where
  c : Str
  ks : List Str
  ps : List P
inductive Rs (α : Type) where
  | ok (a : α) (S : Store)
  | exc (x : Xc) (S : Store)
  | no
def Rs.bind {α β : Type} : Rs α → (α → Store → Rs β) → Rs β
  | .ok a S, f => f a S
  | .exc x S, _ => .exc x S
  | .no, _ => .no
mutual
/-- a key of any depth -/
def nkP : P → Option NestedKey
  | .non => some .none
  | .int i => some (.num i)
  | .str z => some (.text z)
  | .tup ps => (nkAll ps).map .tup
  | _ => none
def nkAll : List P → Option (List NestedKey)
  | [] => some []
  | p :: ps => match nkP p, nkAll ps with
    | some k, some ks => some (k :: ks)
    | _, _ => none
end
/-- a dict whose keys are tuples, nested, of ints, texts and None -/
def DNok (pg : Program) (w : World) (a : Addr) (kvs : List (NestedKey × Addr × V)) (h : Heap) : Prop :=
  kvs.length ≤ sizeLine ∧ (a == sysModules) = false ∧ ∃ xs : List (NestedKey × Addr × Value), Paired (fun (p : NestedKey × Addr × V) (q : NestedKey × Addr × Value) => p.1 = q.1 ∧ p.2.1 = q.2.1 ∧ RelV p.2.2 q.2.2) kvs xs ∧
    ∃ o es ep, h.get? a = some o ∧ o.ExactDict ∧ o.data = .dict es ep ∧ es.toList = xs.map (entryOfKey (nestedKind pg w)) ∧ (xs.map (·.1)).Nodup
def dN (pg : Program) (w : World) (a : Addr) (kvs : List (NestedKey × Addr × V)) : HO := .ext (DNok pg w a kvs)
def keyP : Key → P
  | .inl i => .int i
  | .inr x => .str x
theorem same_sqT {K : Fr} {H H' : Hp} {a : Addr} {xs : List V} (e : Same H H') (h : SqT K.K H a xs) : SqT K.K H' a xs := by
  rcases h with (h | ⟨o, h⟩) | h
  · exact .inl (.inl (e _ _ h))
  · exact .inl (.inr ⟨o, e _ _ h⟩)
  · exact .inr h
theorem same_sqL {K : Fr} {H H' : Hp} {a : Addr} {xs : List V} (e : Same H H') (h : SqL K.K H a xs) : SqL K.K H' a xs := by
  rcases h with (h | ⟨o, h⟩) | h
  · exact .inl (.inl (e _ _ h))
  · exact .inl (.inr ⟨o, e _ _ h⟩)
  · exact .inr h
/-- tuples that may be written at the top: () and those of defs -/
def wr : List P → Bool
  | [] => true
  | .glo _ :: _ => true
  | _ => false
mutual
inductive Rp (K : Fr) (F : Hp) : V → P → Prop
  | non : Rp K F .non .non
  | bl (b : Bool) : Rp K F (.bl b) (.bl b)
  | int (i : Int) : Rp K F (.int i) (.int i)
  | str (x : Str) : Rp K F (.str x) (.str x)
  | lst {a : Addr} {xs : List V} {ps : List P} : F a = some (.lst xs) → RpAll K F xs ps → Rp K F (.ref a) (.lst ps)
  | tup {a : Addr} {xs : List V} {ps : List P} : F a = some (.tup xs) → RpAll K F xs ps → Rp K F (.ref a) (.tup ps)
  | tupW {a : Addr} {xs : List V} {ps : List P} : SqT K.K F a xs → RpAll K F xs ps → wr ps = true → Rp K F (.ref a) (.tup ps)
  | dicK {a : Addr} {kvs : List (Key × V)} {ks ps : List P} : F a = some (.dK kvs) → ks = kvs.map (fun q => keyP q.1) → RpAll K F (kvs.map (·.2)) ps → Rp K F (.ref a) (.dic false ks ps)
  | dicN {a : Addr} {kvs : List (NestedKey × Addr × V)} {ks ps : List P} : F a = some (dN K.pg K.w a kvs) → RpAll K F (kvs.map fun q => .ref q.2.1) ks → ks.map nkP = kvs.map (fun q => some q.1) → (∀ q ∈ kvs, q.1.depth ≤ 8) → RpAll K F (kvs.map (·.2.2)) ps → Rp K F (.ref a) (.dic true ks ps)
  | ins {a dx : Addr} {c : Str} {fs : List (Str × V)} {ks : List Str} {ps : List P} : F a = some (.ins (He.ga K.K c) dx fs) → F dx = some (.own a) → ks = fs.map (·.1) → RpAll K F (fs.map (·.2)) ps → Rp K F (.ref a) (.ins c ks ps)
  | glo (x : Str) : Rp K F (.ref (He.ga K.K x)) (.glo x)
  | ty (n : String) : Rp K F (.ty n) (.ty n)
  | scr {a : Addr} {ns : List Int} : SqL K.K F a (ns.map V.int) → Rp K F (.ref a) (.scr ns)
inductive RpAll (K : Fr) (F : Hp) : List V → List P → Prop
  | nil : RpAll K F [] []
  | cons {v : V} {vs : List V} {d : P} {ds : List P} : Rp K F v d → RpAll K F vs ds → RpAll K F (v :: vs) (d :: ds)
end
section
variable {K : Fr} {F F' : Hp}
mutual
theorem Rp.mono (e : Same F F') : ∀ (d : P) (v : V), Rp K F v d → Rp K F' v d
  | .non, _, h => by cases h; exact .non
  | .bl b, _, h => by cases h; exact .bl b
  | .int i, _, h => by cases h; exact .int i
  | .str x, _, h => by cases h; exact .str x
  | .lst ds, _, h => by
    cases h with
    | lst hs ha => exact .lst (e _ _ hs) (RpAll.mono e ds _ ha)
  | .tup ds, _, h => by
    cases h with
    | tup hs ha => exact .tup (e _ _ hs) (RpAll.mono e ds _ ha)
    | tupW hs ha hw => exact .tupW (same_sqT e hs) (RpAll.mono e ds _ ha) hw
  | .dic _ ks ds, _, h => by
    cases h with
    | dicK hs hk ha => exact .dicK (e _ _ hs) hk (RpAll.mono e ds _ ha)
    | dicN hs h1 h2 h3 ha => exact .dicN (e _ _ hs) (RpAll.mono e ks _ h1) h2 h3 (RpAll.mono e ds _ ha)
  | .ins c ks ds, _, h => by
    cases h with
    | ins hs ho hk ha => exact .ins (e _ _ hs) (e _ _ ho) hk (RpAll.mono e ds _ ha)
  | .glo x, _, h => by cases h; exact .glo x
  | .ty x, _, h => by cases h; exact .ty x
  | .scr ns, _, h => by
    cases h with
    | scr hs => exact .scr (same_sqL e hs)
theorem RpAll.mono (e : Same F F') : ∀ (ds : List P) (vs : List V), RpAll K F vs ds → RpAll K F' vs ds
  | [], _, h => by cases h; exact .nil
  | d :: ds, _, h => by
    cases h with
    | cons h1 h2 => exact .cons (Rp.mono e d _ h1) (RpAll.mono e ds _ h2)
end
theorem RpAll.length : ∀ {ds : List P} {vs : List V}, RpAll K F vs ds → vs.length = ds.length
  | [], _, h => by cases h; rfl
  | d :: ds, _, h => by
    cases h with
    | cons h1 h2 => rw [List.length_cons, List.length_cons, RpAll.length h2]
theorem RpAll.get : ∀ {ds : List P} {vs : List V} {i : Nat} {v : V}, RpAll K F vs ds → vs[i]? = some v → ∃ d, ds[i]? = some d ∧ Rp K F v d
  | [], _, _, _, h, e => by cases h; simp at e
  | d :: ds, _, 0, _, h, e => by
    cases h with
    | cons h1 h2 =>
      simp at e
      subst e
      exact ⟨d, rfl, h1⟩
  | d :: ds, _, i + 1, v, h, e => by
    cases h with
    | cons h1 h2 =>
      obtain ⟨d', e1, e2⟩ := RpAll.get (i := i) (v := v) h2 (by simpa using e)
      exact ⟨d', by simpa using e1, e2⟩
theorem RpAll.get' : ∀ {ds : List P} {vs : List V} {i : Nat} {d : P}, RpAll K F vs ds → ds[i]? = some d → ∃ v, vs[i]? = some v ∧ Rp K F v d
  | [], _, _, _, h, e => by simp at e
  | d :: ds, _, 0, _, h, e => by
    cases h with
    | cons h1 h2 =>
      simp at e
      subst e
      exact ⟨_, rfl, h1⟩
  | d :: ds, _, i + 1, v, h, e => by
    cases h with
    | cons h1 h2 =>
      obtain ⟨d', e1, e2⟩ := RpAll.get' (i := i) (d := v) h2 (by simpa using e)
      exact ⟨d', by simpa using e1, e2⟩
theorem RpAll.append : ∀ {ds es : List P} {vs ws : List V}, RpAll K F vs ds → RpAll K F ws es → RpAll K F (vs ++ ws) (ds ++ es)
  | [], _, _, _, h, h' => by cases h; exact h'
  | d :: ds, _, _, _, h, h' => by
    cases h with
    | cons h1 h2 => exact .cons h1 (RpAll.append h2 h')
theorem RpAll.take : ∀ (n : Nat) {ds : List P} {vs : List V}, RpAll K F vs ds → RpAll K F (vs.take n) (ds.take n)
  | 0, _, _, _ => by rw [List.take_zero, List.take_zero]; exact .nil
  | n + 1, [], _, h => by cases h; exact .nil
  | n + 1, d :: ds, _, h => by
    cases h with
    | cons h1 h2 => exact .cons h1 (RpAll.take n h2)
theorem RpAll.drop : ∀ (n : Nat) {ds : List P} {vs : List V}, RpAll K F vs ds → RpAll K F (vs.drop n) (ds.drop n)
  | 0, _, _, h => h
  | n + 1, [], _, h => by cases h; exact .nil
  | n + 1, d :: ds, _, h => by
    cases h with
    | cons h1 h2 => exact RpAll.drop n h2
theorem RpAll.rev {ds : List P} {vs : List V} (h : RpAll K F vs ds) : RpAll K F vs.reverse ds.reverse := by
  induction ds generalizing vs with
  | nil => cases h; exact .nil
  | cons d ds ih =>
    cases h with
    | cons h1 h2 =>
      rw [List.reverse_cons, List.reverse_cons]
      exact (ih h2).append (.cons h1 .nil)
end

/-! ### growing: F the part that is known and stays, H the heap -/
structure Grow (F H F' H' : Hp) : Prop where
  sF : Same F F'
  sH : Same H H'
  sub : Same F' H'
  fr : ∀ a, F a = none → H a ≠ none → F' a = none
theorem Grow.refl {F H : Hp} (s : Same F H) : Grow F H F H := ⟨Same.refl _, Same.refl _, s, fun _ h _ => h⟩
theorem some_same {H H' : Hp} {a : Addr} (e : Same H H') (h : H a ≠ none) : H' a ≠ none := by
  cases q : H a with
  | none => exact absurd q h
  | some o => rw [e a o q]; exact fun z => nomatch z
theorem Grow.trans {F H F1 H1 F2 H2 : Hp} (a : Grow F H F1 H1) (b : Grow F1 H1 F2 H2) : Grow F H F2 H2 :=
  ⟨a.sF.trans b.sF, a.sH.trans b.sH, b.sub, fun x h1 h2 => b.fr x (a.fr x h1 h2) (some_same a.sH h2)⟩
/-- a new object, known from now on -/
theorem Grow.new {F H : Hp} {p : Addr} {o : HO} (s : Same F H) (n : H p = none) : Grow F H (upd F p o) (upd H p o) := by
  have nF : F p = none := s.free n
  refine ⟨fun a x e => ?_, fun a x e => ?_, fun a x e => ?_, fun a h1 h2 => ?_⟩
  · rw [upd_ne (ne_of_none e nF)]; exact e
  · rw [upd_ne (ne_of_none e n)]; exact e
  · by_cases h : a = p
    · subst h; rw [upd_same] at e ⊢; exact e
    · rw [upd_ne h] at e ⊢; exact s _ _ e
  · have h : a ≠ p := fun z => h2 (by rw [z]; exact n)
    rw [upd_ne h]; exact h1
/-- a new object of which nothing is known -/
theorem Grow.own {F H : Hp} {p : Addr} {o : HO} (s : Same F H) (n : H p = none) : Grow F H F (upd H p o) :=
  ⟨Same.refl _, fun a x e => by rw [upd_ne (ne_of_none e n)]; exact e, fun a x e => by rw [upd_ne (ne_of_none (s _ _ e) n)]; exact s _ _ e, fun _ h _ => h⟩
theorem Same.upd_new {H : Hp} {p : Addr} {o : HO} (n : H p = none) : Same H (upd H p o) := fun a x e => by
  rw [upd_ne (ne_of_none e n)]; exact e

/-! ### values with live objects -/
def RelD (K : Fr) (F : Hp) (R : List Addr) (v : V) : D → Prop
  | .p p => Rp K F v p
  | .ref n => ∃ a, R[n]? = some a ∧ v = .ref a
abbrev RelAll (K : Fr) (F : Hp) (R : List Addr) : List V → List D → Prop := Paired fun v d => RelD K F R v d
theorem pre_get {R R' : List Addr} (e : R <+: R') {n : Nat} {a : Addr} (h : R[n]? = some a) : R'[n]? = some a := by
  obtain ⟨t, rfl⟩ := e
  rw [List.getElem?_append_left (List.getElem?_eq_some_iff.mp h).1]; exact h
theorem pre_refl {R : List Addr} : R <+: R := ⟨[], List.append_nil R⟩
theorem pre_trans {R R' R'' : List Addr} (e : R <+: R') (e' : R' <+: R'') : R <+: R'' := by
  obtain ⟨t, rfl⟩ := e
  obtain ⟨u, rfl⟩ := e'
  exact ⟨t ++ u, by rw [List.append_assoc]⟩
theorem pre_app {R t : List Addr} : R <+: R ++ t := ⟨t, rfl⟩
section
variable {K : Fr} {F F' : Hp} {R R' : List Addr}
theorem RelD.mono {v : V} {d : D} (e : Same F F') (eR : R <+: R') (h : RelD K F R v d) : RelD K F' R' v d := by
  cases d with
  | p p => exact Rp.mono e _ _ h
  | ref n => obtain ⟨a, h1, h2⟩ := h; exact ⟨a, pre_get eR h1, h2⟩
theorem RelAll.mono (e : Same F F') (eR : R <+: R') : ∀ {vs : List V} {ds : List D}, RelAll K F R vs ds → RelAll K F' R' vs ds
  | _, _, .nil => .nil
  | _, _, .cons h t => .cons (RelD.mono e eR h) (RelAll.mono e eR t)
theorem RelAll.length : ∀ {vs : List V} {ds : List D}, RelAll K F R vs ds → vs.length = ds.length
  | _, _, .nil => rfl
  | _, _, .cons _ t => by rw [List.length_cons, List.length_cons, RelAll.length t]
theorem RelAll.get' : ∀ {vs : List V} {ds : List D} {i : Nat} {d : D}, RelAll K F R vs ds → ds[i]? = some d → ∃ v, vs[i]? = some v ∧ RelD K F R v d
  | _, _, _, _, .nil, e => by simp at e
  | _, _, 0, _, .cons h t, e => by simp at e; subst e; exact ⟨_, rfl, h⟩
  | _, _, i + 1, d, .cons h t, e => by
    obtain ⟨v, e1, e2⟩ := RelAll.get' (i := i) (d := d) t (by simpa using e)
    exact ⟨v, by simpa using e1, e2⟩
theorem RelAll.append : ∀ {vs ws : List V} {ds es : List D}, RelAll K F R vs ds → RelAll K F R ws es → RelAll K F R (vs ++ ws) (ds ++ es)
  | _, _, _, _, .nil, h => h
  | _, _, _, _, .cons h t, h' => .cons h (RelAll.append t h')
theorem RelAll.set {v : V} {d : D} (h : RelD K F R v d) : ∀ {vs : List V} {ds : List D} (i : Nat), RelAll K F R vs ds → RelAll K F R (vs.set i v) (ds.set i d)
  | _, _, _, .nil => .nil
  | _, _, 0, .cons _ t => .cons h t
  | _, _, i + 1, .cons q t => .cons q (RelAll.set h i t)
theorem RelAll.of_p : ∀ {vs : List V} {ps : List P}, RpAll K F vs ps → RelAll K F R vs (ps.map .p)
  | _, [], h => by cases h; exact .nil
  | _, p :: ps, h => by
    cases h with
    | cons h1 h2 => exact .cons h1 (RelAll.of_p h2)
theorem RelAll.to_p : ∀ {vs : List V} {ps : List P}, RelAll K F R vs (ps.map .p) → RpAll K F vs ps
  | _, [], h => by cases h; exact .nil
  | _, p :: ps, h => by
    cases h with
    | cons h1 h2 => exact .cons h1 (RelAll.to_p h2)
end

/-! ### the store in the heap -/
def nil : Hp := fun _ => none
def one (l : Addr) (o : HO) : Hp := fun a => if a = l then some o else none
def two (l : Addr) (o : HO) (m : Addr) (u : HO) : Hp := fun a => if a = l then some o else if a = m then some u else none
theorem one_same {l : Addr} {o : HO} : one l o l = some o := if_pos rfl
theorem one_some {l a : Addr} {o u : HO} (h : one l o a = some u) : a = l ∧ o = u := by
  unfold one at h
  split at h
  · rename_i e; cases h; exact ⟨e, rfl⟩
  · cases h
theorem two_fst {l m : Addr} {o u : HO} : two l o m u l = some o := if_pos rfl
theorem two_snd {l m : Addr} {o u : HO} (h : m ≠ l) : two l o m u m = some u := by unfold two; rw [if_neg h, if_pos rfl]
theorem two_some {l m a : Addr} {o u x : HO} (h : two l o m u a = some x) : (a = l ∧ x = o) ∨ (a = m ∧ x = u) := by
  unfold two at h
  split at h
  · rename_i e; cases h; exact .inl ⟨e, rfl⟩
  · split at h
    · rename_i e; cases h; exact .inr ⟨e, rfl⟩
    · cases h
inductive CellOk (K : Fr) (F : Hp) (R : List Addr) (a : Addr) : Hp → Cell → Prop
  | lst {vs : List V} {ds : List D} : RelAll K F R vs ds → CellOk K F R a (one a (.lst vs)) (.lst ds)
  | dicK {kvs : List (Key × V)} {ks : List P} {ds : List D} : ks = kvs.map (fun q => keyP q.1) → RelAll K F R (kvs.map (·.2)) ds → CellOk K F R a (one a (.dK kvs)) (.dic false ks ds)
  | dicN {kvs : List (NestedKey × Addr × V)} {ks : List P} {ds : List D} : RpAll K F (kvs.map fun q => .ref q.2.1) ks → ks.map nkP = kvs.map (fun q => some q.1) → (∀ q ∈ kvs, q.1.depth ≤ 8) → RelAll K F R (kvs.map (·.2.2)) ds → CellOk K F R a (one a (dN K.pg K.w a kvs)) (.dic true ks ds)
  | ins {dx : Addr} {c : Str} {fs : List (Str × V)} {ks : List Str} {ds : List D} : dx ≠ a → ks = fs.map (·.1) → RelAll K F R (fs.map (·.2)) ds → CellOk K F R a (two a (.ins (He.ga K.K c) dx fs) dx (.own a)) (.ins c ks ds)
  | dead : CellOk K F R a nil .dead
theorem CellOk.mono {K : Fr} {F F' : Hp} {R R' : List Addr} {a : Addr} {pc : Hp} {c : Cell} (e : Same F F') (eR : R <+: R') (h : CellOk K F R a pc c) : CellOk K F' R' a pc c := by
  cases h with
  | lst h => exact .lst (h.mono e eR)
  | dicK hk h => exact .dicK hk (h.mono e eR)
  | dicN h1 h2 h3 h => exact .dicN (RpAll.mono e _ _ h1) h2 h3 (h.mono e eR)
  | ins hd hk h => exact .ins hd hk (h.mono e eR)
  | dead => exact .dead
structure Rpc (K : Fr) (G F : Hp) (R : List Addr) (S : Store) (H : Hp) (pc : Nat → Hp) : Prop where
  sub : Same F H
  len : R.length = S.length
  ok : ∀ (n : Nat) c, S[n]? = some c → ∃ a, R[n]? = some a ∧ CellOk K F R a (pc n) c
  out : ∀ n a o, pc n a = some o → F a = none ∧ H a = some o
  sep : ∀ n m a, pc n a ≠ none → pc m a ≠ none → n = m
  emp : ∀ n, S.length ≤ n → pc n = nil
  grd : ∀ a o, G a = some o → H a = some o ∧ F a = none ∧ ∀ n, pc n a = none
def Rep (K : Fr) (G F : Hp) (R : List Addr) (S : Store) (H : Hp) : Prop := ∃ pc, Rpc K G F R S H pc
/-- another piece for n -/
def put (pc : Nat → Hp) (i : Nat) (h : Hp) : Nat → Hp := fun j => if j = i then h else pc j
theorem put_same {pc : Nat → Hp} {i : Nat} {h : Hp} : put pc i h i = h := if_pos rfl
theorem put_ne {pc : Nat → Hp} {i j : Nat} {h : Hp} (n : j ≠ i) : put pc i h j = pc j := if_neg n
section
variable {K : Fr} {G F H F' H' : Hp} {R R' : List Addr} {S : Store} {pc : Nat → Hp}
theorem Rep.sub (h : Rep K G F R S H) : Same F H := let ⟨_, h⟩ := h; h.sub
theorem Rep.len (h : Rep K G F R S H) : R.length = S.length := let ⟨_, h⟩ := h; h.len
theorem Rep.grow (h : Rep K G F R S H) (g : Grow F H F' H') : Rep K G F' R S H' := by
  obtain ⟨pc, h⟩ := h
  exact ⟨pc, g.sub, h.len, fun n c e => let ⟨a, e1, e2⟩ := h.ok n c e; ⟨a, e1, e2.mono g.sF pre_refl⟩,
    fun n a o e => let ⟨h1, h2⟩ := h.out n a o e; ⟨g.fr a h1 (by rw [h2]; exact fun z => nomatch z), g.sH _ _ h2⟩, h.sep, h.emp, fun a o e => let ⟨h1, h2, h3⟩ := h.grd a o e; ⟨g.sH _ _ h1, g.fr a h2 (by rw [h1]; exact fun z => nomatch z), h3⟩⟩
theorem Rpc.free (h : Rpc K G F R S H pc) {a : Addr} (n : H a = none) (m : Nat) : pc m a = none := by
  cases q : pc m a with
  | none => rfl
  | some o => rw [(h.out m a o q).2] at n; cases n
theorem get_push {α : Type} {S : List α} {c x : α} {n : Nat} (h : (S ++ [c])[n]? = some x) : S[n]? = some x ∨ (n = S.length ∧ x = c) := by
  by_cases hn : n < S.length
  · rw [List.getElem?_append_left hn] at h; exact .inl h
  · rw [List.getElem?_append_right (by omega)] at h
    cases hk : n - S.length with
    | zero => rw [hk] at h; simp at h; exact .inr ⟨by omega, h.symm⟩
    | succ k => rw [hk] at h; simp at h
/-- a new live object: its piece lies where nothing was -/
theorem Rep.push (h : Rep K G F R S H) {a : Addr} {q : Hp} {c : Cell} (hq : ∀ b o, q b = some o → H b = none) (hc : CellOk K F (R ++ [a]) a q c) (hH : ∀ b, H' b = match q b with | some o => some o | none => H b) : Rep K G F (R ++ [a]) (S ++ [c]) H' := by
  obtain ⟨pc, h⟩ := h
  have hpn : pc S.length = nil := h.emp _ (Nat.le_refl _)
  have old : ∀ b o, H b = some o → H' b = some o := fun b o e => by
    rw [hH]
    cases z : q b with
    | none => exact e
    | some u => rw [hq b u z] at e; cases e
  refine ⟨put pc S.length q, fun b o e => old _ _ (h.sub _ _ e), by rw [List.length_append, List.length_append, h.len]; rfl, fun n c' e => ?_, fun n b o e => ?_, fun n m b e1 e2 => ?_, fun n hn => ?_, fun b o e => ?_⟩
  · rcases get_push e with e | ⟨rfl, rfl⟩
    · obtain ⟨a', e1, e2⟩ := h.ok n c' e
      have hn : n ≠ S.length := fun z => by have := (List.getElem?_eq_some_iff.mp e).1; omega
      exact ⟨a', pre_get pre_app e1, by rw [put_ne hn]; exact e2.mono (Same.refl _) pre_app⟩
    · refine ⟨a, ?_, by rw [put_same]; exact hc⟩
      rw [← h.len, List.getElem?_append_right (Nat.le_refl _), Nat.sub_self]; rfl
  · by_cases hn : n = S.length
    · subst hn
      rw [put_same] at e
      exact ⟨h.sub.free (hq b o e), by rw [hH, e]⟩
    · rw [put_ne hn] at e
      obtain ⟨h1, h2⟩ := h.out n b o e
      exact ⟨h1, old _ _ h2⟩
  · by_cases hn : n = S.length
    · by_cases hm : m = S.length
      · rw [hn, hm]
      · rw [hn, put_same] at e1
        rw [put_ne hm] at e2
        cases z : q b with
        | none => exact absurd z e1
        | some o => exact absurd (h.free (hq b o z) m) e2
    · rw [put_ne hn] at e1
      by_cases hm : m = S.length
      · rw [hm, put_same] at e2
        cases z : q b with
        | none => exact absurd z e2
        | some o => exact absurd (h.free (hq b o z) n) e1
      · rw [put_ne hm] at e2
        exact h.sep n m b e1 e2
  · have hn : S.length + 1 ≤ n := by rw [List.length_append] at hn; exact hn
    rw [put_ne (by omega)]
    exact h.emp n (by omega)
  · obtain ⟨h1, h2, h3⟩ := h.grd b o e
    refine ⟨old _ _ h1, h2, fun n => ?_⟩
    by_cases hn : n = S.length
    · rw [hn, put_same]
      cases z : q b with
      | none => rfl
      | some u => rw [hq b u z] at h1; cases h1
    · rw [put_ne hn]; exact h3 n
theorem Rep.push1 (h : Rep K G F R S H) {a : Addr} {o : HO} {c : Cell} (n : H a = none) (hc : CellOk K F (R ++ [a]) a (one a o) c) : Rep K G F (R ++ [a]) (S ++ [c]) (upd H a o) :=
  h.push (fun b u e => by obtain ⟨rfl, _⟩ := one_some e; exact n) hc fun b => by
    unfold upd one
    by_cases hb : b = a
    · rw [if_pos hb, if_pos hb]
    · rw [if_neg hb, if_neg hb]
/-- what stands at a live object -/
theorem Rep.at (h : Rep K G F R S H) {n : Nat} {c : Cell} (e : S[n]? = some c) : ∃ a q, R[n]? = some a ∧ CellOk K F R a q c ∧ ∀ b o, q b = some o → F b = none ∧ H b = some o := by
  obtain ⟨pc, h⟩ := h
  obtain ⟨a, e1, e2⟩ := h.ok n c e
  exact ⟨a, pc n, e1, e2, fun b o z => h.out n b o z⟩
theorem set_get {α : Type} {l : List α} {i j : Nat} {a b : α} (h : (l.set i a)[j]? = some b) : (j = i ∧ b = a) ∨ (j ≠ i ∧ l[j]? = some b) := by
  by_cases hj : j = i
  · subst hj
    have hl := (List.getElem?_eq_some_iff.mp h).1
    rw [List.length_set] at hl
    rw [List.getElem?_set_self hl] at h
    exact .inl ⟨rfl, (Option.some.inj h).symm⟩
  · rw [List.getElem?_set_ne (Ne.symm hj)] at h
    exact .inr ⟨hj, h⟩
/-- a live object is changed in its place -/
theorem Rep.mut (h : Rep K G F R S H) {n : Nat} {c c' : Cell} {a b : Addr} {q' : Hp → Hp} {o : HO} (e : S[n]? = some c) (ea : R[n]? = some a) (hb : ∀ q, CellOk K F R a q c → (∀ x u, q x = some u → H x = some u) → q b ≠ none ∧ CellOk K F R a (upd q b o) c') : Rep K G F R (S.set n c') (upd H b o) := by
  obtain ⟨pc, h⟩ := h
  obtain ⟨a', e1, e2⟩ := h.ok n c e
  rw [ea] at e1; cases e1
  obtain ⟨nb, hc⟩ := hb _ e2 fun x u z => (h.out n x u z).2
  obtain ⟨ob, hob⟩ : ∃ ob, pc n b = some ob := by
    cases z : pc n b with
    | none => exact absurd z nb
    | some ob => exact ⟨ob, rfl⟩
  obtain ⟨fb, Hb⟩ := h.out n b ob hob
  refine ⟨put pc n (upd (pc n) b o), fun x u z => ?_, by rw [List.length_set]; exact h.len, fun m x z => ?_, fun m x u z => ?_, fun m k x z1 z2 => ?_, fun m hm => ?_, fun x u z => ?_⟩
  · rw [upd_ne (ne_of_none z fb)]; exact h.sub _ _ z
  · rcases set_get z with ⟨rfl, rfl⟩ | ⟨hm, z⟩
    · exact ⟨a, ea, by rw [put_same]; exact hc⟩
    · obtain ⟨a2, z1, z2⟩ := h.ok m x z
      exact ⟨a2, z1, by rw [put_ne hm]; exact z2⟩
  · by_cases hm : m = n
    · subst hm
      rw [put_same] at z
      by_cases hx : x = b
      · subst hx; rw [upd_same] at z; exact ⟨fb, by rw [upd_same]; exact z⟩
      · rw [upd_ne hx] at z
        rw [upd_ne hx]
        exact h.out m x u z
    · rw [put_ne hm] at z
      obtain ⟨z1, z2⟩ := h.out m x u z
      refine ⟨z1, ?_⟩
      rw [upd_ne (fun y => by
        subst y
        exact hm (h.sep m n x (by rw [z]; exact fun y => nomatch y) (by rw [hob]; exact fun y => nomatch y)))]
      exact z2
  · have key : ∀ j, put pc n (upd (pc n) b o) j x ≠ none → pc j x ≠ none := fun j hj => by
      by_cases hjn : j = n
      · subst hjn
        rw [put_same] at hj
        by_cases hx : x = b
        · subst hx; rw [hob]; exact fun y => nomatch y
        · rw [upd_ne hx] at hj; exact hj
      · rw [put_ne hjn] at hj; exact hj
    exact h.sep m k x (key m z1) (key k z2)
  · rw [List.length_set] at hm
    have : n < S.length := (List.getElem?_eq_some_iff.mp e).1
    rw [put_ne (by omega)]
    exact h.emp m hm
  · obtain ⟨z1, z2, z3⟩ := h.grd x u z
    have hx : x ≠ b := fun y => by subst y; rw [z3 n] at hob; cases hob
    refine ⟨by rw [upd_ne hx]; exact z1, z2, fun m => ?_⟩
    by_cases hm : m = n
    · rw [hm, put_same, upd_ne hx]; exact z3 n
    · rw [put_ne hm]; exact z3 m
end
/-! slots -/
structure SlR (K : Fr) (F : Hp) (R : List Addr) (σ : L2.St) (sl : Slots) : Prop where
  len : σ.length = sl.length
  get : ∀ (i : Nat) d, sl[i]? = some (some d) → ∃ v, σ[i]? = some (some v) ∧ RelD K F R v d
section
variable {K : Fr} {F H F' H' : Hp} {R R' : List Addr} {S : Store} {σ : L2.St} {sl : Slots}
theorem SlR.mono (h : SlR K F R σ sl) (e : Same F F') (eR : R <+: R') : SlR K F' R' σ sl := ⟨h.len, fun i d z => let ⟨v, z1, z2⟩ := h.get i d z; ⟨v, z1, z2.mono e eR⟩⟩
theorem SlR.set (h : SlR K F R σ sl) {i : Nat} {v : V} {d : D} (hv : RelD K F R v d) : SlR K F R (σ.set i (some v)) (sl.set i (some d)) := by
  refine ⟨by rw [List.length_set, List.length_set]; exact h.len, fun j d' e => ?_⟩
  rcases set_get e with ⟨rfl, e'⟩ | ⟨hj, e⟩
  · cases e'
    have hl := (List.getElem?_eq_some_iff.mp e).1
    rw [List.length_set] at hl
    exact ⟨v, by rw [List.getElem?_set_self (by rw [h.len]; exact hl)], hv⟩
  · obtain ⟨w, e1, e2⟩ := h.get j d' e
    exact ⟨w, by rw [List.getElem?_set_ne (Ne.symm hj)]; exact e1, e2⟩
theorem SlR.setN (h : SlR K F R σ sl) {i : Nat} {o : Option V} : SlR K F R (σ.set i o) (sl.set i none) := by
  refine ⟨by rw [List.length_set, List.length_set]; exact h.len, fun j d' e => ?_⟩
  rcases set_get e with ⟨rfl, e'⟩ | ⟨hj, e⟩
  · cases e'
  · obtain ⟨w, e1, e2⟩ := h.get j d' e
    exact ⟨w, by rw [List.getElem?_set_ne (Ne.symm hj)]; exact e1, e2⟩
end
end Z

namespace Z
open PySem PySem.Spec PyProof.Rows L2

/-! ### judgements: a computation m tells what an expression does -/
structure Kx where
  X : Cx
  W : WX
  tk : Takes X W
  G : Hp
abbrev Kx.K (C : Kx) : Fr := ⟨C.X.K, C.X.prog, C.X.w⟩
def XRel (K : Fr) (F : Hp) (cls : Value) (d : Option Addr) (x : Xc) : Prop :=
  cls = .ref (He.ga K.K x.c) ∧ ((x.ks = [] ∧ x.ps = [] ∧ d = none) ∨ ∃ a fs, d = some a ∧ F a = some (.xd fs) ∧ x.ks = fs.map (·.1) ∧ RpAll K F (fs.map (·.2)) x.ps)
section
variable {α β γ δ : Type}
def Post (C : Kx) (σ : L2.St) (F : Hp) (R : List Addr) (rel : Hp → List Addr → β → α → Prop) (Q : β → Hp → Prop) : Rs α → Prop
  | .ok a S' => ∀ b F' R' H', rel F' R' b a → Rep C.K C.G F' R' S' H' → Same F F' → R <+: R' → Q b H'
  | .exc x S' => ∀ cls d F' R' H', XRel C.K F' cls d x → Rep C.K C.G F' R' S' H' → Same F F' → R <+: R' → C.W cls d σ H'
  | .no => False
variable {C : Kx} {σ : L2.St} {F F1 : Hp} {R R1 : List Addr} {rel : Hp → List Addr → β → α → Prop} {Q : β → Hp → Prop}
theorem Post.mono {r : Rs α} (h : Post C σ F R rel Q r) (e : Same F F1) (eR : R <+: R1) : Post C σ F1 R1 rel Q r := by
  cases r with
  | ok a S => exact fun b F' R' H' h1 h2 h3 h4 => h b F' R' H' h1 h2 (e.trans h3) (pre_trans eR h4)
  | exc x S => exact fun c d F' R' H' h1 h2 h3 h4 => h c d F' R' H' h1 h2 (e.trans h3) (pre_trans eR h4)
  | no => exact h.elim
/-- behind the first part the rest is wanted -/
theorem Post.bind {rel2 : Hp → List Addr → δ → γ → Prop} {Q2 : δ → Hp → Prop} {r : Rs α} {f : α → Store → Rs γ} (h : Post C σ F R rel2 Q2 (r.bind f))
    (k : ∀ a S1 b F1 R1 H1, r = .ok a S1 → rel F1 R1 b a → Rep C.K C.G F1 R1 S1 H1 → Same F F1 → R <+: R1 → Post C σ F1 R1 rel2 Q2 (f a S1) → Q b H1) : Post C σ F R rel Q r := by
  cases r with
  | ok a S => exact fun b F' R' H' h1 h2 h3 h4 => k a S b F' R' H' rfl h1 h2 h3 h4 (Post.mono h h3 h4)
  | exc x S => exact h
  | no => exact h.elim
/-- the end of a part -/
theorem Post.okv {rel : Hp → List Addr → β → α → Prop} {a : α} {S : Store} {b : β} {H : Hp} (h : Post C σ F R rel Q (.ok a S)) (h1 : rel F R b a) (h2 : Rep C.K C.G F R S H) : Q b H := h b F R H h1 h2 (Same.refl _) pre_refl
end
abbrev M := Slots → Store → Rs D
abbrev MT := Slots → Store → Rs Bool
abbrev MA := Slots → Store → Rs (List D)
abbrev rB : Hp → List Addr → Bool → Bool → Prop := fun _ _ b a => b = a
structure Ej (C : Kx) (m : M) (e : Expr) : Prop where
  run : ∀ sl S σ F R H, SlR C.K F R σ sl → Rep C.K C.G F R S H → ∀ Q : VK, Post C σ F R (RelD C.K) Q (m sl S) → ED C.X e σ H Q
instance {C : Kx} {m : M} {e : Expr} : CoeFun (Ej C m e) (fun _ => ∀ sl S σ F R H, SlR C.K F R σ sl → Rep C.K C.G F R S H → ∀ Q : VK, Post C σ F R (RelD C.K) Q (m sl S) → ED C.X e σ H Q) := ⟨fun h => h.run⟩
structure Tj (C : Kx) (m : MT) (e : Expr) : Prop where
  run : ∀ sl S σ F R H, SlR C.K F R σ sl → Rep C.K C.G F R S H → ∀ Q : Bool → Hp → Prop, Post C σ F R rB Q (m sl S) → TD C.X e σ H Q
instance {C : Kx} {m : MT} {e : Expr} : CoeFun (Tj C m e) (fun _ => ∀ sl S σ F R H, SlR C.K F R σ sl → Rep C.K C.G F R S H → ∀ Q : Bool → Hp → Prop, Post C σ F R rB Q (m sl S) → TD C.X e σ H Q) := ⟨fun h => h.run⟩
structure Wj (C : Kx) (m : MT) (e : Expr) : Prop where
  run : ∀ sl S σ F R H, SlR C.K F R σ sl → Rep C.K C.G F R S H → ∀ Q : Bool → Hp → Prop, Post C σ F R rB Q (m sl S) → WD C.X e σ H Q
instance {C : Kx} {m : MT} {e : Expr} : CoeFun (Wj C m e) (fun _ => ∀ sl S σ F R H, SlR C.K F R σ sl → Rep C.K C.G F R S H → ∀ Q : Bool → Hp → Prop, Post C σ F R rB Q (m sl S) → WD C.X e σ H Q) := ⟨fun h => h.run⟩
structure Aj (C : Kx) (m : MA) (es : List Expr) : Prop where
  run : ∀ sl S σ F R H, SlR C.K F R σ sl → Rep C.K C.G F R S H → ∀ Q : List V → Hp → Prop, Post C σ F R (RelAll C.K) Q (m sl S) → AD C.X es σ H Q
instance {C : Kx} {m : MA} {es : List Expr} : CoeFun (Aj C m es) (fun _ => ∀ sl S σ F R H, SlR C.K F R σ sl → Rep C.K C.G F R S H → ∀ Q : List V → Hp → Prop, Post C σ F R (RelAll C.K) Q (m sl S) → AD C.X es σ H Q) := ⟨fun h => h.run⟩
inductive Fl where
  | nx (sl : Slots) (S : Store)
  | rt (d : D) (S : Store)
  | bk (sl : Slots) (S : Store)
  | ct (sl : Slots) (S : Store)
  | exc (x : Xc) (sl : Slots) (S : Store)
  | no
abbrev MS := Slots → Store → Fl
def PostS (C : Kx) (F : Hp) (R : List Addr) (D : Ends) : Fl → Prop
  | .nx sl S => ∀ σ' F' R' H', SlR C.K F' R' σ' sl → Rep C.K C.G F' R' S H' → Same F F' → R <+: R' → D.nx σ' H'
  | .rt d S => ∀ v F' R' H', RelD C.K F' R' v d → Rep C.K C.G F' R' S H' → Same F F' → R <+: R' → D.rt v H'
  | .bk sl S => ∀ σ' F' R' H', SlR C.K F' R' σ' sl → Rep C.K C.G F' R' S H' → Same F F' → R <+: R' → D.bk σ' H'
  | .ct sl S => ∀ σ' F' R' H', SlR C.K F' R' σ' sl → Rep C.K C.G F' R' S H' → Same F F' → R <+: R' → D.ct σ' H'
  | .exc x sl S => ∀ cls d σ' F' R' H', XRel C.K F' cls d x → SlR C.K F' R' σ' sl → Rep C.K C.G F' R' S H' → Same F F' → R <+: R' → C.W cls d σ' H'
  | .no => False
theorem PostS.mono {C : Kx} {F F1 : Hp} {R R1 : List Addr} {D : Ends} {r : Fl} (h : PostS C F R D r) (e : Same F F1) (eR : R <+: R1) : PostS C F1 R1 D r := by
  cases r with
  | nx sl S => exact fun b F' R' H' h1 h2 h3 h4 => h b F' R' H' h1 h2 (e.trans h3) (pre_trans eR h4)
  | rt sl S => exact fun b F' R' H' h1 h2 h3 h4 => h b F' R' H' h1 h2 (e.trans h3) (pre_trans eR h4)
  | bk sl S => exact fun b F' R' H' h1 h2 h3 h4 => h b F' R' H' h1 h2 (e.trans h3) (pre_trans eR h4)
  | ct sl S => exact fun b F' R' H' h1 h2 h3 h4 => h b F' R' H' h1 h2 (e.trans h3) (pre_trans eR h4)
  | exc x sl S => exact fun c d σ' F' R' H' h0 h1 h2 h3 h4 => h c d σ' F' R' H' h0 h1 h2 (e.trans h3) (pre_trans eR h4)
  | no => exact h.elim
structure Sj1 (C : Kx) (m : MS) (st : Stmt) : Prop where
  run : ∀ sl S σ F R H, SlR C.K F R σ sl → Rep C.K C.G F R S H → ∀ D : Ends, PostS C F R D (m sl S) → SD1 C.X st D σ H
instance {C : Kx} {m : MS} {st : Stmt} : CoeFun (Sj1 C m st) (fun _ => ∀ sl S σ F R H, SlR C.K F R σ sl → Rep C.K C.G F R S H → ∀ D : Ends, PostS C F R D (m sl S) → SD1 C.X st D σ H) := ⟨fun h => h.run⟩
structure Sj (C : Kx) (m : MS) (ss : List Stmt) : Prop where
  run : ∀ sl S σ F R H, SlR C.K F R σ sl → Rep C.K C.G F R S H → ∀ D : Ends, PostS C F R D (m sl S) → SD C.X ss D σ H
instance {C : Kx} {m : MS} {ss : List Stmt} : CoeFun (Sj C m ss) (fun _ => ∀ sl S σ F R H, SlR C.K F R σ sl → Rep C.K C.G F R S H → ∀ D : Ends, PostS C F R D (m sl S) → SD C.X ss D σ H) := ⟨fun h => h.run⟩
/-- an expression in a statement -/
def Rs.st {α : Type} (r : Rs α) (sl : Slots) (f : α → Store → Fl) : Fl := match r with
  | .ok a S => f a S
  | .exc x S => .exc x sl S
  | .no => .no
theorem PostS.bind {α β : Type} {C : Kx} {σ : L2.St} {F : Hp} {R : List Addr} {D : Ends} {sl : Slots} {rel : Hp → List Addr → β → α → Prop} {Q : β → Hp → Prop} {r : Rs α} {f : α → Store → Fl} (h : PostS C F R D (r.st sl f)) (hs : SlR C.K F R σ sl)
    (k : ∀ a S1 b F1 R1 H1, r = .ok a S1 → rel F1 R1 b a → Rep C.K C.G F1 R1 S1 H1 → Same F F1 → R <+: R1 → SlR C.K F1 R1 σ sl → PostS C F1 R1 D (f a S1) → Q b H1) : Post C σ F R rel Q r := by
  cases r with
  | ok a S => exact fun b F' R' H' h1 h2 h3 h4 => k a S b F' R' H' rfl h1 h2 h3 h4 (hs.mono h3 h4) (PostS.mono h h3 h4)
  | exc x S => exact fun c d F' R' H' h0 h1 h2 h3 => h c d σ F' R' H' h0 (hs.mono h2 h3) h1 h2 h3
  | no => exact h.elim

/-! ### arguments without stars -/
def notStar : Expr → Bool
  | .Starred _ _ => false
  | _ => true
theorem se_of {e : Expr} {es : List Expr} {env : Env} (h : notStar e = true) : starEach (e :: es) env = (false, eval e env) :: starEach es env := by
  cases e <;> first | rfl | cases h
theorem se_any : ∀ {es : List Expr} {env : Env}, es.all notStar = true → (starEach es env).any (·.1) = false
  | [], _, _ => rfl
  | e :: es, env, h => by
    rw [List.all_cons, Bool.and_eq_true] at h
    rw [se_of h.1, List.any_cons, se_any h.2]
    rfl
theorem pl_of {es : List Expr} {env : Env} {pos : Pos} (h : es.all notStar = true) : (backTo pos (starEach es env)).any (·.1) = false := by
  have := se_any (env := env) h
  unfold backTo
  cases hq : starEach es env with
  | nil => simp
  | cons x xs => rw [hq] at this; simp_all
/-! ### what is to be read of a value -/
def pures : List D → Option (List P)
  | [] => some []
  | .p p :: ds => (pures ds).map (p :: ·)
  | .ref _ :: _ => none
theorem pures_eq : ∀ {ds : List D} {ps : List P}, pures ds = some ps → ds = ps.map .p
  | [], _, h => by cases h; rfl
  | .p p :: ds, ps, h => by
    cases hq : pures ds with
    | none => simp only [pures, hq] at h; cases h
    | some qs => simp only [pures, hq] at h; cases h; rw [pures_eq hq]; rfl
  | .ref _ :: _, _, h => by cases h
theorem pures_map : ∀ ps : List P, pures (ps.map .p) = some ps
  | [] => rfl
  | p :: ps => by simp only [List.map_cons, pures, pures_map ps]; rfl
def viewC : Cell → Option P
  | .lst ds => (pures ds).map .lst
  | .dic t ks ds => (pures ds).map (.dic t ks)
  | .ins c ks ds => (pures ds).map (.ins c ks)
  | .dead => none
def view (S : Store) : D → Option P
  | .p p => some p
  | .ref n => match S[n]? with
    | some c => viewC c
    | none => none
inductive Vw (K : Fr) (F H : Hp) : V → P → Prop
  | p {v : V} {p : P} : Rp K F v p → Vw K F H v p
  | lst {a : Addr} {vs : List V} {ps : List P} : H a = some (.lst vs) → RpAll K F vs ps → Vw K F H (.ref a) (.lst ps)
  | dicK {a : Addr} {kvs : List (Key × V)} {ks ps : List P} : H a = some (.dK kvs) → ks = kvs.map (fun q => keyP q.1) → RpAll K F (kvs.map (·.2)) ps → Vw K F H (.ref a) (.dic false ks ps)
  | dicN {a : Addr} {kvs : List (NestedKey × Addr × V)} {ks ps : List P} : H a = some (dN K.pg K.w a kvs) → RpAll K F (kvs.map fun q => .ref q.2.1) ks → ks.map nkP = kvs.map (fun q => some q.1) → (∀ q ∈ kvs, q.1.depth ≤ 8) → RpAll K F (kvs.map (·.2.2)) ps → Vw K F H (.ref a) (.dic true ks ps)
  | ins {a dx : Addr} {c : Str} {fs : List (Str × V)} {ks : List Str} {ps : List P} : H a = some (.ins (He.ga K.K c) dx fs) → H dx = some (.own a) → ks = fs.map (·.1) → RpAll K F (fs.map (·.2)) ps → Vw K F H (.ref a) (.ins c ks ps)
section
variable {K : Fr} {G F H : Hp} {R : List Addr} {S : Store} {v : V} {p : P}
theorem view_vw {d : D} (hv : RelD K F R v d) (h : Rep K G F R S H) (e : view S d = some p) : Vw K F H v p := by
  cases d with
  | p q => cases e; exact .p hv
  | ref n =>
    obtain ⟨a, ha, rfl⟩ := hv
    cases hc : S[n]? with
    | none => simp only [view, hc] at e; cases e
    | some c =>
      have e : viewC c = some p := by simpa only [view, hc] using e
      obtain ⟨a', q, ha', ok, out⟩ := h.at hc
      rw [ha] at ha'; cases ha'
      cases ok with
      | @lst vs ds hr =>
        cases hp : pures ds with
        | none => simp only [viewC, hp] at e; cases e
        | some ps =>
          simp only [viewC, hp] at e; cases e
          rw [pures_eq hp] at hr
          exact .lst (out a _ one_same).2 hr.to_p
      | @dicK kvs ks ds hk hr =>
        cases hp : pures ds with
        | none => simp only [viewC, hp] at e; cases e
        | some ps =>
          simp only [viewC, hp] at e; cases e
          rw [pures_eq hp] at hr
          exact .dicK (out a _ one_same).2 hk hr.to_p
      | @dicN kvs ks ds h1 h2 h3 hr =>
        cases hp : pures ds with
        | none => simp only [viewC, hp] at e; cases e
        | some ps =>
          simp only [viewC, hp] at e; cases e
          rw [pures_eq hp] at hr
          exact .dicN (out a _ one_same).2 h1 h2 h3 hr.to_p
      | @ins dx c fs ks ds hd hk hr =>
        cases hp : pures ds with
        | none => simp only [viewC, hp] at e; cases e
        | some ps =>
          simp only [viewC, hp] at e; cases e
          rw [pures_eq hp] at hr
          exact .ins (out a _ two_fst).2 (out dx _ (two_snd hd)).2 hk hr.to_p
      | dead => cases e
theorem Vw.rd (h : Vw K F H v p) (s : Same F H) : Rp K H v p := by
  cases h with
  | p h => exact Rp.mono s _ _ h
  | lst h1 h2 => exact .lst h1 (RpAll.mono s _ _ h2)
  | dicK h1 h2 h3 => exact .dicK h1 h2 (RpAll.mono s _ _ h3)
  | dicN h1 h2 h3 h4 h5 => exact .dicN h1 (RpAll.mono s _ _ h2) h3 h4 (RpAll.mono s _ _ h5)
  | ins h1 h2 h3 h4 => exact .ins h1 h2 h3 (RpAll.mono s _ _ h4)
theorem Vw.int {i : Int} (h : Vw K F H v (.int i)) : v = .int i := by cases h with | p h => cases h; rfl
theorem Vw.str {z : Str} (h : Vw K F H v (.str z)) : v = .str z := by cases h with | p h => cases h; rfl
theorem Vw.bl {b : Bool} (h : Vw K F H v (.bl b)) : v = .bl b := by cases h with | p h => cases h; rfl
theorem Vw.non (h : Vw K F H v .non) : v = .non := by cases h with | p h => cases h; rfl
theorem Vw.lstE {ps : List P} (h : Vw K F H v (.lst ps)) (s : Same F H) : ∃ a vs, v = .ref a ∧ H a = some (.lst vs) ∧ RpAll K F vs ps := by
  cases h with
  | p h => cases h with | lst h1 h2 => exact ⟨_, _, rfl, s _ _ h1, h2⟩
  | lst h1 h2 => exact ⟨_, _, rfl, h1, h2⟩
theorem Vw.tupE {ps : List P} (h : Vw K F H v (.tup ps)) : ∃ a vs, v = .ref a ∧ SqT K.K F a vs ∧ RpAll K F vs ps := by
  cases h with
  | p h =>
    cases h with
    | tup h1 h2 => exact ⟨_, _, rfl, .inl (.inl h1), h2⟩
    | tupW h1 h2 => exact ⟨_, _, rfl, h1, h2⟩
theorem Vw.tupP {ps : List P} (h : Vw K F H v (.tup ps)) : Rp K F v (.tup ps) := by
  cases h with
  | p h => exact h
theorem Vw.scrE {ns : List Int} (h : Vw K F H v (.scr ns)) (s : Same F H) : ∃ a, v = .ref a ∧ SqL K.K H a (ns.map V.int) := by
  cases h with
  | p h => cases h with | scr h1 => exact ⟨_, rfl, same_sqL s h1⟩
end

/-! ### data that may be compared -/
mutual
def eqv : P → P → Bool
  | .non, .non => true
  | .bl a, .bl b => a == b
  | .bl a, .int j => (if a then 1 else 0) == j
  | .int i, .bl b => i == (if b then 1 else 0)
  | .int i, .int j => i == j
  | .str x, .str y => x == y
  | .lst xs, .lst ys => eqvAll xs ys
  | .tup xs, .tup ys => eqvAll xs ys
  | _, _ => false
def eqvAll : List P → List P → Bool
  | [], [] => true
  | x :: xs, y :: ys => eqv x y && eqvAll xs ys
  | _, _ => false
end
mutual
def py : P → PyData
  | .non => .none
  | .bl b => .bool b
  | .int i => .int i
  | .str z => .str z
  | .lst ps => .list (pyAll ps)
  | .tup ps => .tuple (pyAll ps)
  | _ => .none
def pyAll : List P → List PyData
  | [] => []
  | p :: ps => py p :: pyAll ps
end
def chOk (x : Str) : Bool := PyData.strOk x
/-- plain data, at most n deep -/
def fin : Nat → P → Bool
  | _, .non => true
  | _, .bl _ => true
  | _, .int _ => true
  | _, .str x => chOk x
  | n + 1, .lst xs => xs.all (fin n)
  | n + 1, .tup xs => xs.all (fin n)
  | _, _ => false
abbrev dpt : Nat := 24
theorem canLayAll_all : ∀ {xs : List PyData}, (∀ x ∈ xs, PyData.canLay0 x = true) → PyData.canLayAll0 xs = true
  | [], _ => by simp [PyData.canLayAll0]
  | x :: xs, h => by
    simp only [PyData.canLayAll0, Bool.and_eq_true]
    exact ⟨h x (List.mem_cons_self ..), canLayAll_all fun y hy => h y (List.mem_cons_of_mem _ hy)⟩
theorem depthAll_le {n : Nat} : ∀ {xs : List PyData}, (∀ x ∈ xs, PyData.depth x ≤ n) → PyData.depthAll xs ≤ n
  | [], _ => by simp [PyData.depthAll]
  | x :: xs, h => by
    simp only [PyData.depthAll]
    exact Nat.max_le.mpr ⟨h x (List.mem_cons_self ..), depthAll_le fun y hy => h y (List.mem_cons_of_mem _ hy)⟩
theorem pyAll_map : ∀ ps : List P, pyAll ps = ps.map py
  | [] => rfl
  | p :: ps => by simp only [pyAll, List.map_cons, pyAll_map ps]
theorem fin_lay : ∀ (n : Nat) (d : P), fin n d = true → PyData.canLay0 (py d) = true ∧ PyData.depth (py d) ≤ n
  | _, .non, _ => ⟨by simp [py, PyData.canLay0], by simp [py, PyData.depth]⟩
  | _, .bl _, _ => ⟨by simp [py, PyData.canLay0], by simp [py, PyData.depth]⟩
  | _, .int _, _ => ⟨by simp [py, PyData.canLay0], by simp [py, PyData.depth]⟩
  | n, .str x, h => ⟨by
      have h' : chOk x = true := by cases n <;> exact h
      simp only [py, PyData.canLay0]; exact h', by simp [py, PyData.depth]⟩
  | n + 1, .lst xs, h => by
    have all := List.all_eq_true.mp (show xs.all (fin n) = true from h)
    simp only [py, pyAll_map]
    refine ⟨by
      simp only [PyData.canLay0]
      exact canLayAll_all fun x hx => by obtain ⟨q, hq, rfl⟩ := List.mem_map.mp hx; exact (fin_lay n q (all q hq)).1, ?_⟩
    simp only [PyData.depth]
    have := depthAll_le (n := n) (xs := xs.map py) fun x hx => by obtain ⟨q, hq, rfl⟩ := List.mem_map.mp hx; exact (fin_lay n q (all q hq)).2
    omega
  | n + 1, .tup xs, h => by
    have all := List.all_eq_true.mp (show xs.all (fin n) = true from h)
    simp only [py, pyAll_map]
    refine ⟨by
      simp only [PyData.canLay0]
      exact canLayAll_all fun x hx => by obtain ⟨q, hq, rfl⟩ := List.mem_map.mp hx; exact (fin_lay n q (all q hq)).1, ?_⟩
    simp only [PyData.depth]
    have := depthAll_le (n := n) (xs := xs.map py) fun x hx => by obtain ⟨q, hq, rfl⟩ := List.mem_map.mp hx; exact (fin_lay n q (all q hq)).2
    omega
  | 0, .lst _, h => by cases h
  | 0, .tup _, h => by cases h
  | 0, .dic _ _ _, h => by cases h
  | _ + 1, .dic _ _ _, h => by cases h
  | 0, .ins _ _ _, h => by cases h
  | _ + 1, .ins _ _ _, h => by cases h
  | 0, .glo _, h => by cases h
  | _ + 1, .glo _, h => by cases h
  | 0, .ty _, h => by cases h
  | _ + 1, .ty _, h => by cases h
  | 0, .scr _, h => by cases h
  | _ + 1, .scr _, h => by cases h
theorem fin_shaped {n : Nat} {d : P} (h : fin n d = true) (hn : n ≤ 64 := by decide) : SeqAt.shaped (py d) = true := by
  obtain ⟨h1, h2⟩ := fin_lay n d h
  unfold SeqAt.shaped
  rw [Bool.and_eq_true]
  exact ⟨h1, decide_eq_true (Nat.le_trans h2 hn)⟩
theorem fin_py : ∀ (n : Nat) (p q : P), fin n p = true → fin n q = true → PyData.eqv (py p) (py q) = eqv p q := by
  intro n
  induction n with
  | zero =>
    intro p q hp hq
    cases p <;> first | (cases hp; done) | skip
    all_goals (cases q <;> first | (cases hq; done) | simp only [py, PyData.eqv, eqv])
  | succ n ih =>
    have all : ∀ xs ys : List P, (∀ x ∈ xs, fin n x = true) → (∀ y ∈ ys, fin n y = true) → PyData.eqvAll (pyAll xs) (pyAll ys) = eqvAll xs ys := by
      intro xs
      induction xs with
      | nil => intro ys _ _; cases ys <;> simp only [pyAll, PyData.eqvAll, eqvAll]
      | cons x xs ih2 =>
        intro ys h1 h2
        cases ys with
        | nil => simp only [pyAll, PyData.eqvAll, eqvAll]
        | cons y ys =>
          simp only [pyAll, PyData.eqvAll, eqvAll]
          rw [ih x y (h1 x (List.mem_cons_self ..)) (h2 y (List.mem_cons_self ..)), ih2 ys (fun z hz => h1 z (List.mem_cons_of_mem _ hz)) (fun z hz => h2 z (List.mem_cons_of_mem _ hz))]
    intro p q hp hq
    cases p <;> first | (cases hp; done) | skip
    all_goals (cases q <;> first | (cases hq; done) | skip)
    all_goals first
      | (simp only [py, PyData.eqv, eqv]; done)
      | (simp only [py, PyData.eqv, eqv]; exact all _ _ (List.all_eq_true.mp hp) (List.all_eq_true.mp hq))
section
variable {K : Fr} {F : Hp}
theorem rp_dp : ∀ (n : Nat) (p : P) (v : V), fin n p = true → Rp K F v p → Dp K.K F v (py p) := by
  intro n
  induction n with
  | zero =>
    intro p v hp h
    cases h <;> first | (cases hp; done) | skip
    · simp only [py]; exact .non
    · simp only [py]; exact .bl _
    · simp only [py]; exact .int _
    · simp only [py]; exact .str _
  | succ n ih =>
    have all : ∀ (ps : List P) (vs : List V), (∀ x ∈ ps, fin n x = true) → RpAll K F vs ps → DpAll K.K F vs (pyAll ps) := by
      intro ps
      induction ps with
      | nil => intro vs _ h; cases h; simp only [pyAll]; exact .nil
      | cons p ps ih2 =>
        intro vs h1 h
        cases h with
        | cons h2 h3 =>
          simp only [pyAll]
          exact .cons (ih p _ (h1 p (List.mem_cons_self ..)) h2) (ih2 _ (fun z hz => h1 z (List.mem_cons_of_mem _ hz)) h3)
    intro p v hp h
    cases h <;> first | (cases hp; done) | skip
    · simp only [py]; exact .non
    · simp only [py]; exact .bl _
    · simp only [py]; exact .int _
    · simp only [py]; exact .str _
    · rename_i h1 h2
      simp only [py]; exact .lst (.inl (.inl h1)) (all _ _ (List.all_eq_true.mp hp) h2)
    · rename_i h1 h2
      simp only [py]; exact .tup (.inl (.inl h1)) (all _ _ (List.all_eq_true.mp hp) h2)
    · rename_i h1 h2 _
      simp only [py]; exact .tup h1 (all _ _ (List.all_eq_true.mp hp) h2)
end
end Z

namespace Z
open PySem PySem.Spec PyProof.Rows L2
section
variable {C : Kx} {a b c e : Expr} {es rest : List Expr} {pos p : Pos} {x : Str} {m m1 m2 m3 : M} {t t1 t2 : MT}

/-! ### names, constants -/
def eV (i : Nat) : M := fun sl S => match sl[i]? with
  | some (some d) => .ok d S
  | _ => .no
theorem ej_v (i : Nat) (hN : C.X.N[i]? = some x := by rfl) (hv : Vis C.X.env.scope x := by first | exact Or.inl rfl | exact Or.inr (Or.inl rfl) | exact Or.inr (Or.inr rfl)) (hd : (x == ("__debug__" : Str)) = false := by decide) (hcd : (x == ("__classdict__" : Str)) = false := by decide) : Ej C (eV i) (.Name x pos) := .mk fun sl S σ F R H hs hr Q post => by
  unfold eV at post
  cases h : sl[i]? with
  | none => rw [h] at post; exact post.elim
  | some o =>
    rw [h] at post
    cases o with
    | none => exact post.elim
    | some d =>
      obtain ⟨v, e, p⟩ := hs.get i d h
      exact ED.of (pe_var hN hv hd hcd) ⟨v, e, post.okv p hr⟩
def eK (p : P) : M := fun _ S => .ok (.p p) S
theorem ej_val {v : V} {q : P} (h : PE C.X e (tC v)) (hv : ∀ F, Rp C.K F v q) : Ej C (eK q) e := .mk fun sl S σ F R H hs hr Q post =>
  ED.of h (post.okv (b := v) (hv F) hr)
theorem ej_int {i : Int} {j} : Ej C (eK (.int i)) (.Constant (.int i) j pos) := ej_val pe_int fun _ => .int i
theorem ej_bl {i : Bool} {j} : Ej C (eK (.bl i)) (.Constant (.bool i) j pos) := ej_val pe_bl fun _ => .bl i
theorem ej_str {i : Str} {j} : Ej C (eK (.str i)) (.Constant (.str i) j pos) := ej_val pe_str fun _ => .str i
theorem ej_non {j} : Ej C (eK .non) (.Constant .none j pos) := ej_val pe_non fun _ => .non
theorem ej_gS {z : Str} (hm : ∃ t, C.X.mg x = some (.str z t)) (hg : Gl C.X x := by rfl) (hd : (x == ("__debug__" : Str)) = false := by decide) : Ej C (eK (.str z)) (.Name x pos) := let ⟨_, hm⟩ := hm; ej_val (pe_glob (v := .str z) hg hm ⟨_, rfl⟩ hd) fun _ => .str z
theorem ej_gI {z : Int} (hm : ∃ t, C.X.mg x = some (.int z t)) (hg : Gl C.X x := by rfl) (hd : (x == ("__debug__" : Str)) = false := by decide) : Ej C (eK (.int z)) (.Name x pos) := let ⟨_, hm⟩ := hm; ej_val (pe_glob (v := .int z) hg hm ⟨_, rfl⟩ hd) fun _ => .int z
theorem ej_gO (hm : C.X.mg x = some (.ref (He.ga C.K.K x))) (hg : Gl C.X x := by rfl) (hd : (x == ("__debug__" : Str)) = false := by decide) : Ej C (eK (.glo x)) (.Name x pos) := ej_val (pe_glob (v := .ref (He.ga C.K.K x)) hg hm rfl hd) fun _ => .glo x
theorem ej_ty {n : String} (hm : C.X.mg x = none) (hv : bootBuiltins x = some (.type n) := by decide +kernel) (hg : Gl C.X x := by rfl) (hn : x ≠ "__name__" := by decide) (hd : (x == ("__debug__" : Str)) = false := by decide) : Ej C (eK (.ty n)) (.Name x pos) := ej_val (pe_bltn (v := .ty n) hg hm hv rfl hn hd) fun _ => .ty n

/-! ### operators by what is read of values -/
def lift2 (f : P → P → Option P) (d1 d2 : D) (S : Store) : Rs D := match view S d1, view S d2 with
  | some p, some q => match f p q with
    | some r => .ok (.p r) S
    | none => .no
  | _, _ => .no
def eB (f : P → P → Option P) (m1 m2 : M) : M := fun sl S => (m1 sl S).bind fun d1 S1 => (m2 sl S1).bind fun d2 S2 => lift2 f d1 d2 S2
def BinV (K : Fr) (r : R2) (f : P → P → Option P) : Prop := ∀ p q z x y F H (Q : VK), f p q = some z → Vw K F H x p → Vw K F H y q → Same F H → (∀ v F' H', Rp K F' v z → Grow F H F' H' → Q v H') → r x y H Q
theorem lift2_post {K : Fr} {r : R2} {f : P → P → Option P} {σ : L2.St} {F H : Hp} {R : List Addr} {S : Store} {d1 d2 : D} {x y : V} {Q : VK} (hK : K = C.K) (hb : BinV K r f) (rx : RelD C.K F R x d1) (ry : RelD C.K F R y d2) (rep : Rep C.K C.G F R S H)
    (post : Post C σ F R (RelD C.K) Q (lift2 f d1 d2 S)) : r x y H Q := by
  subst hK
  unfold lift2 at post
  cases h1 : view S d1 with
  | none => rw [h1] at post; exact post.elim
  | some p =>
    rw [h1] at post
    cases h2 : view S d2 with
    | none => rw [h2] at post; exact post.elim
    | some q =>
      rw [h2] at post
      cases h3 : f p q with
      | none => simp only [h3] at post; exact post.elim
      | some z =>
        simp only [h3] at post
        exact hb p q z x y F H Q h3 (view_vw rx rep h1) (view_vw ry rep h2) rep.sub fun v F' H' rv g => post v F' R H' rv (rep.grow g) g.sF pre_refl
theorem ej_op2 {r : R2} {f : P → P → Option P} (hp : PE C.X e (tOp r (ED C.X a) (ED C.X b))) (hb : BinV C.K r f) (h1 : Ej C m1 a) (h2 : Ej C m2 b) : Ej C (eB f m1 m2) e := .mk fun sl S σ F R H hs hr Q post =>
  ED.of hp (h1 sl S σ F R H hs hr _ (Post.bind post fun d1 S1 x F1 R1 H1 _ rx rep1 s1 r1 post1 => h2 sl S1 σ F1 R1 H1 (hs.mono s1 r1) rep1 _ (Post.bind post1 fun d2 S2 y F2 R2 H2 _ ry rep2 s2 r2 post2 =>
    lift2_post rfl hb (rx.mono s2 r2) ry rep2 post2)))
theorem ej_bin {op : Operator} {r : R2} {f : P → P → Option P} (ho : OpR C.X (binaryOp op) r) (hb : BinV C.K r f) (h1 : Ej C m1 a) (h2 : Ej C m2 b) : Ej C (eB f m1 m2) (.BinOp a op b pos) := ej_op2 (pe_op ho pe_d pe_d) hb h1 h2
theorem ej_cmp {op : CmpOp} {r : R2} {f : P → P → Option P} (ho : OpR C.X (compareOp op) r) (hb : BinV C.K r f) (h1 : Ej C m1 a) (h2 : Ej C m2 b) (hm : behindInMarks op b = false := by first | exact nomark _ | rfl) : Ej C (eB f m1 m2) (.Compare a [op] [b] pos) := ej_op2 (pe_cmpR ho pe_d pe_d hm) hb h1 h2
theorem ej_ix {r : R2} {f : P → P → Option P} (hr : IxR C.X r) (hb : BinV C.K r f) (h1 : Ej C m1 a) (h2 : Ej C m2 b) (hs : PlainIx b := by exact fun _ _ => rfl) : Ej C (eB f m1 m2) (.Subscript a b pos) := ej_op2 (pe_ix hr pe_d pe_d hs) hb h1 h2
/-- the answer as a test -/
def asB : D → Store → Rs Bool
  | .p (.bl b), S => .ok b S
  | _, _ => .no
theorem tj_op2 {r : R2} {f : P → P → Option P} (hp : PT C.X e (tTest (tOp r (ED C.X a) (ED C.X b)))) (hb : BinV C.K r f) (h1 : Ej C m1 a) (h2 : Ej C m2 b) : Tj C (fun sl S => (eB f m1 m2 sl S).bind asB) e := .mk fun sl S σ F R H hs hr Q post => by
  have post' : Post C σ F R (RelD C.K) (fun x H' => ∃ k, x = .bl k ∧ Q k H') (eB f m1 m2 sl S) := Post.bind post fun d S1 x F1 R1 H1 _ rx rep1 s1 r1 post1 => by
    cases d with
    | ref n => exact post1.elim
    | p q =>
      cases q <;> first | exact post1.elim | skip
      cases rx
      exact ⟨_, rfl, post1.okv rfl rep1⟩
  refine TD.of hp ?_
  exact (h1 sl S σ F R H hs hr _ (Post.bind post' fun d1 S1 x F1 R1 H1 _ rx rep1 s1 r1 post1 => h2 sl S1 σ F1 R1 H1 (hs.mono s1 r1) rep1 _ (Post.bind post1 fun d2 S2 y F2 R2 H2 _ ry rep2 s2 r2 post2 =>
    lift2_post rfl hb (rx.mono s2 r2) ry rep2 post2)))
def tB (f : P → P → Option P) (m1 m2 : M) : MT := fun sl S => (eB f m1 m2 sl S).bind asB
theorem tj_cmp {op : CmpOp} {r : R2} {f : P → P → Option P} (ho : OpR C.X (compareOp op) r) (hb : BinV C.K r f) (h1 : Ej C m1 a) (h2 : Ej C m2 b) (hm : behindInMarks op b = false := by first | exact nomark _ | rfl) : Tj C (tB f m1 m2) (.Compare a [op] [b] pos) := tj_op2 (pt_cmpR ho pe_d pe_d hm) hb h1 h2
/-- a value as a test -/
def truP : P → Option Bool
  | .non => some false
  | .bl b => some b
  | .int i => some (i != 0)
  | .str z => if z.length ≤ sizeLine then some ((z.length : Int) != 0) else none
  | .lst ps => some (!ps.isEmpty)
  | .tup ps => some (!ps.isEmpty)
  | _ => none
def tru (S : Store) (d : D) : Rs Bool := match view S d with
  | some p => match truP p with
    | some b => .ok b S
    | none => .no
  | none => .no
def tV (m : M) : MT := fun sl S => (m sl S).bind fun d S1 => tru S1 d
theorem tru_of {K : Fr} {F H : Hp} {x : V} {p : P} {k : Bool} (h : Vw K F H x p) (s : Same F H) (e : truP p = some k) : TruV K.K x H k := by
  cases p <;> first | (cases e; done) | skip
  · cases e; cases h.non; exact rfl
  · cases e; cases h.bl; exact rfl
  · cases e; cases h.int; exact rfl
  · rename_i z
    have e : (if z.length ≤ sizeLine then some ((z.length : Int) != 0) else none) = some k := e
    split at e
    · rename_i hz; cases e; cases h.str; exact ⟨hz, rfl⟩
    · cases e
  · obtain ⟨a, vs, rfl, h1, h2⟩ := h.tupE
    cases e
    refine .inr (.inl ⟨vs, same_sqT s h1, ?_⟩)
    cases h2 <;> rfl
  · obtain ⟨a, vs, rfl, h1, h2⟩ := h.lstE s
    cases e
    refine .inl ⟨vs, .inl (.inl h1), ?_⟩
    cases h2 <;> rfl
theorem tru_post {σ : L2.St} {F H : Hp} {R : List Addr} {S : Store} {d : D} {x : V} {Q : Bool → Hp → Prop} (rx : RelD C.K F R x d) (rep : Rep C.K C.G F R S H) (post : Post C σ F R rB Q (tru S d)) : ∃ k, TruV C.K.K x H k ∧ Q k H := by
  unfold tru at post
  cases h1 : view S d with
  | none => rw [h1] at post; exact post.elim
  | some p =>
    rw [h1] at post
    cases h3 : truP p with
    | none => simp only [h3] at post; exact post.elim
    | some k =>
      simp only [h3] at post
      exact ⟨k, tru_of (view_vw rx rep h1) rep.sub h3, post.okv rfl rep⟩
theorem tj_v (h : Ej C m e) (he : ∀ whole, isTrue e C.X.env whole = (do let v ← whole; standAt e.pos; holding [v] (truthy v)) := by intro _; rfl) : Tj C (tV m) e := .mk fun sl S σ F R H hs hr Q post =>
  TD.of (pt_truth pe_d he) (h sl S σ F R H hs hr _ (Post.bind post fun d S1 x F1 R1 H1 _ rx rep1 s1 r1 post1 => tru_post rx rep1 post1))
def tN (t : MT) : MT := fun sl S => (t sl S).bind fun b S1 => .ok (!b) S1
theorem tj_not (h : Tj C t a) : Tj C (tN t) (.UnaryOp .Not a pos) := .mk fun sl S σ F R H hs hr Q post =>
  TD.of (pt_not pt_d) (h sl S σ F R H hs hr _ (Post.bind post fun b S1 b' F1 R1 H1 _ rx rep1 s1 r1 post1 => by subst rx; exact post1.okv rfl rep1))
theorem tj_w (h : Wj C t e) : Tj C t e := .mk fun sl S σ F R H hs hr Q post => TD.of (PW.pt pw_d) (h sl S σ F R H hs hr Q post)
theorem wj_and1 (h : Tj C t a) : Wj C t (.BoolOp .And [a] pos) := .mk fun sl S σ F R H hs hr Q post => WD.of (pw_and1 pt_d) (h sl S σ F R H hs hr Q post)
theorem wj_or1 (h : Tj C t a) : Wj C t (.BoolOp .Or [a] pos) := .mk fun sl S σ F R H hs hr Q post => WD.of (pw_or1 pt_d) (h sl S σ F R H hs hr Q post)
def tAnd (t1 t2 : MT) : MT := fun sl S => (t1 sl S).bind fun b S1 => if b = true then t2 sl S1 else .ok false S1
def tOr (t1 t2 : MT) : MT := fun sl S => (t1 sl S).bind fun b S1 => if b = true then .ok true S1 else t2 sl S1
theorem wj_and (h1 : Tj C t1 a) (h2 : Wj C t2 (.BoolOp .And (b :: rest) pos)) : Wj C (tAnd t1 t2) (.BoolOp .And (a :: b :: rest) pos) := .mk fun sl S σ F R H hs hr Q post =>
  WD.of (pw_and pt_d pw_d) (h1 sl S σ F R H hs hr _ (Post.bind post fun k S1 k' F1 R1 H1 _ rx rep1 s1 r1 post1 => by
    cases (show k' = k from rx)
    cases k with
    | true =>
      show WD C.X _ σ H1 Q
      exact h2 sl S1 σ F1 R1 H1 (hs.mono s1 r1) rep1 Q post1
    | false =>
      show Q false H1
      exact post1.okv (b := false) rfl rep1))
theorem wj_or (h1 : Tj C t1 a) (h2 : Wj C t2 (.BoolOp .Or (b :: rest) pos)) : Wj C (tOr t1 t2) (.BoolOp .Or (a :: b :: rest) pos) := .mk fun sl S σ F R H hs hr Q post =>
  WD.of (pw_or pt_d pw_d) (h1 sl S σ F R H hs hr _ (Post.bind post fun k S1 k' F1 R1 H1 _ rx rep1 s1 r1 post1 => by
    cases (show k' = k from rx)
    cases k with
    | false =>
      show WD C.X _ σ H1 Q
      exact h2 sl S1 σ F1 R1 H1 (hs.mono s1 r1) rep1 Q post1
    | true =>
      show Q true H1
      exact post1.okv (b := true) rfl rep1))
/-! and, or, not as values (the first ones truth values) -/
theorem ej_one {op} (h : Ej C m a) : Ej C m (.BoolOp op [a] pos) := .mk fun sl S σ F R H hs hr Q post => ED.of (pe_one pe_d) (h sl S σ F R H hs hr Q post)
def eAnd (m1 m2 : M) : M := fun sl S => (m1 sl S).bind fun d S1 => match d with
  | .p (.bl true) => m2 sl S1
  | .p (.bl false) => .ok (.p (.bl false)) S1
  | _ => .no
def eOr (m1 m2 : M) : M := fun sl S => (m1 sl S).bind fun d S1 => match d with
  | .p (.bl false) => m2 sl S1
  | .p (.bl true) => .ok (.p (.bl true)) S1
  | _ => .no
theorem ej_and (h1 : Ej C m1 a) (h2 : Ej C m2 (.BoolOp .And (b :: rest) pos)) : Ej C (eAnd m1 m2) (.BoolOp .And (a :: b :: rest) pos) := .mk fun sl S σ F R H hs hr Q post =>
  ED.of (pe_and pe_d pe_d) (h1 sl S σ F R H hs hr _ (Post.bind post fun d S1 x F1 R1 H1 _ rx rep1 s1 r1 post1 => by
    cases d with
    | ref n => exact post1.elim
    | p q =>
      cases q with
      | bl k =>
        cases rx
        refine ⟨k, rfl, ?_⟩
        cases k with
        | true =>
          show ED C.X _ σ H1 Q
          exact h2 sl S1 σ F1 R1 H1 (hs.mono s1 r1) rep1 Q post1
        | false =>
          show Q (.bl false) H1
          exact post1.okv (show RelD C.K F1 R1 (.bl false) (.p (.bl false)) from .bl _) rep1
      | _ => exact post1.elim))
theorem ej_or (h1 : Ej C m1 a) (h2 : Ej C m2 (.BoolOp .Or (b :: rest) pos)) : Ej C (eOr m1 m2) (.BoolOp .Or (a :: b :: rest) pos) := .mk fun sl S σ F R H hs hr Q post =>
  ED.of (pe_or pe_d pe_d) (h1 sl S σ F R H hs hr _ (Post.bind post fun d S1 x F1 R1 H1 _ rx rep1 s1 r1 post1 => by
    cases d with
    | ref n => exact post1.elim
    | p q =>
      cases q with
      | bl k =>
        cases rx
        refine ⟨k, rfl, ?_⟩
        cases k with
        | false =>
          show ED C.X _ σ H1 Q
          exact h2 sl S1 σ F1 R1 H1 (hs.mono s1 r1) rep1 Q post1
        | true =>
          show Q (.bl true) H1
          exact post1.okv (show RelD C.K F1 R1 (.bl true) (.p (.bl true)) from .bl _) rep1
      | _ => exact post1.elim))
def eNot (m : M) : M := fun sl S => (m sl S).bind fun d S1 => match d with
  | .p (.bl b) => .ok (.p (.bl !b)) S1
  | _ => .no
theorem ej_not (h : Ej C m a) : Ej C (eNot m) (.UnaryOp .Not a pos) := .mk fun sl S σ F R H hs hr Q post =>
  ED.of (pe_not pe_d) (h sl S σ F R H hs hr _ (Post.bind post fun d S1 x F1 R1 H1 _ rx rep1 s1 r1 post1 => by
    cases d with
    | ref n => exact post1.elim
    | p q =>
      cases q <;> first | exact post1.elim | skip
      cases rx
      exact ⟨_, rfl, post1.okv (show RelD C.K F1 R1 (.bl (!_)) (.p (.bl (!_))) from .bl _) rep1⟩))
def eIf (t : MT) (m1 m2 : M) : M := fun sl S => (t sl S).bind fun b S1 => if b = true then m1 sl S1 else m2 sl S1
theorem ej_if (h : Tj C t c) (h1 : Ej C m1 a) (h2 : Ej C m2 b) : Ej C (eIf t m1 m2) (.IfExp c a b pos) := .mk fun sl S σ F R H hs hr Q post =>
  ED.of (pe_ifExp pt_d pe_d pe_d) (h sl S σ F R H hs hr _ (Post.bind post fun k S1 k' F1 R1 H1 _ rx rep1 s1 r1 post1 => by
    cases (show k' = k from rx)
    cases k with
    | true =>
      show ED C.X _ σ H1 Q
      exact h1 sl S1 σ F1 R1 H1 (hs.mono s1 r1) rep1 Q post1
    | false =>
      show ED C.X _ σ H1 Q
      exact h2 sl S1 σ F1 R1 H1 (hs.mono s1 r1) rep1 Q post1))

/-! ### arguments -/
def aN : MA := fun _ S => .ok [] S
def aC (m : M) (ma : MA) : MA := fun sl S => (m sl S).bind fun d S1 => (ma sl S1).bind fun ds S2 => .ok (d :: ds) S2
theorem aj_nil : Aj C aN [] := .mk fun sl S σ F R H hs hr Q post => AD.of pa_nil (post.okv .nil hr)
theorem aj_cons {ma : MA} (h1 : Ej C m e) (h2 : Aj C ma es) (he : starEach (e :: es) C.X.env = (false, eval e C.X.env) :: starEach es C.X.env := by exact se_of rfl) : Aj C (aC m ma) (e :: es) := .mk fun sl S σ F R H hs hr Q post =>
  AD.of (pa_cons pe_d pa_d he) (h1 sl S σ F R H hs hr _ (Post.bind post fun d S1 x F1 R1 H1 _ rx rep1 s1 r1 post1 => h2 sl S1 σ F1 R1 H1 (hs.mono s1 r1) rep1 _ (Post.bind post1 fun ds S2 ys F2 R2 H2 _ ry rep2 s2 r2 post2 =>
    post2.okv (b := x :: ys) (.cons (rx.mono s2 r2) ry) rep2)))

/-! ### built-in functions by what is read of their arguments -/
def views (S : Store) : List D → Option (List P)
  | [] => some []
  | d :: ds => match view S d, views S ds with
    | some p, some ps => some (p :: ps)
    | _, _ => none
abbrev VwAll (K : Fr) (F H : Hp) : List V → List P → Prop := Paired fun v p => Vw K F H v p
theorem views_vw {K : Fr} {G F H : Hp} {R : List Addr} {S : Store} : ∀ {ds : List D} {vs : List V} {ps : List P}, RelAll K F R vs ds → Rep K G F R S H → views S ds = some ps → VwAll K F H vs ps
  | [], _, _, h, _, e => by cases h; cases e; exact .nil
  | d :: ds, _, ps, h, rep, e => by
    cases h with
    | cons h1 h2 =>
      cases e1 : view S d with
      | none => simp only [views, e1] at e; cases e
      | some p =>
        cases e2 : views S ds with
        | none => simp only [views, e1, e2] at e; cases e
        | some qs =>
          simp only [views, e1, e2] at e; cases e
          exact .cons (view_vw h1 rep e1) (views_vw h2 rep e2)
def liftA (f : List P → Option P) (ds : List D) (S : Store) : Rs D := match views S ds with
  | some ps => match f ps with
    | some r => .ok (.p r) S
    | none => .no
  | none => .no
def eF (f : List P → Option P) (ma : MA) : M := fun sl S => (ma sl S).bind fun ds S1 => liftA f ds S1
def CallV (K : Fr) (r : List V → Hp → VK → Prop) (f : List P → Option P) : Prop := ∀ ps z vs F H (Q : VK), f ps = some z → VwAll K F H vs ps → Same F H → (∀ v F' H', Rp K F' v z → Grow F H F' H' → Q v H') → r vs H Q
theorem liftA_post {r : List V → Hp → VK → Prop} {f : List P → Option P} {σ : L2.St} {F H : Hp} {R : List Addr} {S : Store} {ds : List D} {vs : List V} {Q : VK} (hb : CallV C.K r f) (rx : RelAll C.K F R vs ds) (rep : Rep C.K C.G F R S H)
    (post : Post C σ F R (RelD C.K) Q (liftA f ds S)) : r vs H Q := by
  unfold liftA at post
  cases h1 : views S ds with
  | none => rw [h1] at post; exact post.elim
  | some ps =>
    rw [h1] at post
    cases h3 : f ps with
    | none => simp only [h3] at post; exact post.elim
    | some z =>
      simp only [h3] at post
      exact hb ps z vs F H Q h3 (views_vw rx rep h1) rep.sub fun v F' H' rv g => post v F' R H' rv (rep.grow g) g.sF pre_refl
theorem ej_cb {r : List V → Hp → VK → Prop} {f : List P → Option P} {ma : MA} (hp : PE C.X e (tCB r (AD C.X es))) (hb : CallV C.K r f) (h : Aj C ma es) : Ej C (eF f ma) e := .mk fun sl S σ F R H hs hr Q post =>
  ED.of hp (h sl S σ F R H hs hr _ (Post.bind post fun ds S1 vs F1 R1 H1 _ rx rep1 s1 r1 post1 => liftA_post hb rx rep1 post1))
theorem ej_callB {id : String} {r : List V → Hp → VK → Prop} {f : List P → Option P} {ma : MA} (hc : CallR C.X (.builtin id) r) (hb : CallV C.K r f) (hm : C.X.mg x = none) (hv : bootBuiltins x = some (.builtin id)) (h : Aj C ma (e :: es)) (hg : Gl C.X x := by rfl) (hn : x ≠ "__name__" := by decide) (hdb : (x == ("__debug__" : Str)) = false := by decide)
    (he : starEach (e :: es) C.X.env = (false, eval e C.X.env) :: starEach es C.X.env := by exact se_of rfl) (hpl : (backTo pos (starEach es C.X.env)).any (·.1) = false := by exact pl_of rfl) : Ej C (eF f ma) (.Call (.Name x p) (e :: es) [] pos) :=
  ej_cb (pe_callB hc hg hm hv pa_d hn hdb he hpl) hb h
theorem ej_callTy {N : String} {r : List V → Hp → VK → Prop} {f : List P → Option P} {ma : MA} (hc : CallR C.X (.type N) r) (hb : CallV C.K r f) (hm : C.X.mg x = none) (hv : bootBuiltins x = some (.type N)) (h : Aj C ma (e :: es)) (hg : Gl C.X x := by rfl) (hn : x ≠ "__name__" := by decide) (hdb : (x == ("__debug__" : Str)) = false := by decide)
    (he : starEach (e :: es) C.X.env = (false, eval e C.X.env) :: starEach es C.X.env := by exact se_of rfl) (hpl : (backTo pos (starEach es C.X.env)).any (·.1) = false := by exact pl_of rfl) : Ej C (eF f ma) (.Call (.Name x p) (e :: es) [] pos) :=
  ej_cb (pe_callTy hc hg hm hv pa_d hn hdb he hpl) hb h
end
/-! several readings of one operator -/
theorem OpR.or {X : Cx} {g : Value → Value → Sem Value} {r1 r2 : R2} (h1 : OpR X g r1) (h2 : OpR X g r2) : OpR X g (fun x y H Q => r1 x y H Q ∨ r2 x y H Q) := by
  intro pins s σ H x y v u Q I rx ry h
  rcases h with h | h
  · exact h1 pins s σ H x y v u Q I rx ry h
  · exact h2 pins s σ H x y v u Q I rx ry h
theorem IxR.or {X : Cx} {r1 r2 : R2} (h1 : IxR X r1) (h2 : IxR X r2) : IxR X (fun x y H Q => r1 x y H Q ∨ r2 x y H Q) := by
  intro value slice pins s σ H x y v u Q I rx ry h hs
  rcases h with h | h
  · exact h1 value slice pins s σ H x y v u Q I rx ry h hs
  · exact h2 value slice pins s σ H x y v u Q I rx ry h hs
theorem CallR.or {X : Cx} {f : Value} {r1 r2 : List V → Hp → VK → Prop} (h1 : CallR X f r1) (h2 : CallR X f r2) : CallR X f (fun xs H Q => r1 xs H Q ∨ r2 xs H Q) := by
  intro pins s σ H xs us Q I rx h
  rcases h with h | h
  · exact h1 pins s σ H xs us Q I rx h
  · exact h2 pins s σ H xs us Q I rx h
end Z

namespace Z
open PySem PySem.Spec PyProof.Rows L2
/-! ### operators on what stands still -/
def opAdd : P → P → Option P
  | .int m, .int n => some (.int (m + n))
  | .str x, .str y => if x.length + y.length ≤ sizeLine then some (.str (x ++ y)) else none
  | .lst xs, .lst ys => if xs.length + ys.length ≤ sizeLine then some (.lst (xs ++ ys)) else none
  | .tup xs, .tup ys => if xs.length + ys.length ≤ sizeLine then some (.tup (xs ++ ys)) else none
  | _, _ => none
def opSub : P → P → Option P
  | .int m, .int n => some (.int (m - n))
  | _, _ => none
instance (i j : Int) : Decidable (CMul i j) := by unfold CMul; infer_instance
instance (i j : Int) : Decidable (CDiv i j) := by unfold CDiv; infer_instance
instance (i j : Int) : Decidable (CPow i j) := by unfold CPow; infer_instance
def opMul : P → P → Option P
  | .int m, .int n => if CMul m n then some (.int (m * n)) else none
  | .lst xs, .int n => if (-(2 ^ 63) ≤ n ∧ n < 2 ^ 63) ∧ xs.length * n.toNat ≤ sizeLine then some (.lst (List.replicate n.toNat xs).flatten) else none
  | _, _ => none
def opMod : P → P → Option P
  | .int m, .int n => if 0 < n then some (.int (m % n)) else none
  | _, _ => none
def opDiv : P → P → Option P
  | .int m, .int n => if CDiv m n then some (.int (m / n)) else none
  | _, _ => none
def opPow : P → P → Option P
  | .int m, .int n => if CPow m n then some (.int (m ^ n.toNat)) else none
  | _, _ => none
def opShl : P → P → Option P
  | .int m, .int n => if CPow m n then some (.int (m * 2 ^ n.toNat)) else none
  | _, _ => none
def opShr : P → P → Option P
  | .int m, .int n => if 0 ≤ n then some (.int (m / 2 ^ n.toNat)) else none
  | _, _ => none
def opBand : P → P → Option P
  | .int m, .int n => some (.int (Builtin.bitAnd m n))
  | _, _ => none
def opBor : P → P → Option P
  | .int m, .int n => some (.int (Builtin.bitOr m n))
  | _, _ => none
section
variable {K : Fr}
theorem bv_I0 {g : Int → Int → V} {h : Int → Int → P} {f : P → P → Option P} (hf : ∀ p q z, f p q = some z → ∃ m n, p = .int m ∧ q = .int n ∧ z = h m n) (hd : ∀ m n F, Rp K F (g m n) (h m n)) : BinV K (rI0 g) f := fun p q z x y F H Q e hx hy s k => by
  obtain ⟨m, n, rfl, rfl, rfl⟩ := hf _ _ _ e
  exact ⟨m, n, hx.int, hy.int, k _ F H (hd m n F) (Grow.refl s)⟩
theorem bv_I {c : Int → Int → Prop} {g : Int → Int → V} {h : Int → Int → P} {f : P → P → Option P} (hf : ∀ p q z, f p q = some z → ∃ m n, p = .int m ∧ q = .int n ∧ c m n ∧ z = h m n) (hd : ∀ m n F, Rp K F (g m n) (h m n)) : BinV K (rI c g) f := fun p q z x y F H Q e hx hy s k => by
  obtain ⟨m, n, rfl, rfl, hc, rfl⟩ := hf _ _ _ e
  exact ⟨m, n, hx.int, hy.int, hc, k _ F H (hd m n F) (Grow.refl s)⟩
theorem if_some {c : Prop} [Decidable c] {α : Type} {a z : α} (h : (if c then some a else none) = some z) : c ∧ z = a := by
  split at h
  · rename_i hc; cases h; exact ⟨hc, rfl⟩
  · cases h
def rAddZ (K : PySem.W.Frag) : R2 := fun x y H Q => (rI0 fun i j => .int (i + j)) x y H Q ∨ (fun x y H Q => ∃ i j : Str, x = .str i ∧ y = .str j ∧ i.length + j.length ≤ sizeLine ∧ Q (.str (i ++ j)) H) x y H Q ∨ rCat x y H Q ∨ rCatA K x y H Q
theorem or_add {X : Cx} : OpR X (binaryOp .Add) (rAddZ X.K) := OpR.or op_add (OpR.or op_add_str (OpR.or op_cat op_catA))
theorem bv_add : BinV K (rAddZ K.K) opAdd := fun p q z x y F H Q e hx hy s k => by
  unfold opAdd at e
  split at e
  · cases e
    exact .inl ⟨_, _, hx.int, hy.int, k _ F H (.int _) (Grow.refl s)⟩
  · obtain ⟨hc, rfl⟩ := if_some e
    exact .inr (.inl ⟨_, _, hx.str, hy.str, hc, k _ F H (.str _) (Grow.refl s)⟩)
  · obtain ⟨hc, rfl⟩ := if_some e
    obtain ⟨a, vs, rfl, h1, h2⟩ := hx.lstE s
    obtain ⟨b, ws, rfl, h3, h4⟩ := hy.lstE s
    refine .inr (.inr (.inl ⟨a, b, vs, ws, rfl, rfl, h1, h3, by rw [h2.length, h4.length]; exact hc, fun p hp => ?_⟩))
    have g := Grow.new (o := .lst (vs ++ ws)) s hp
    exact k _ _ _ (.lst upd_same ((RpAll.mono g.sF _ _ h2).append (RpAll.mono g.sF _ _ h4))) g
  · obtain ⟨hc, rfl⟩ := if_some e
    have hx' := hx.tupP
    have hy' := hy.tupP
    obtain ⟨a, vs, rfl, h1, h2⟩ := hx.tupE
    obtain ⟨b, ws, rfl, h3, h4⟩ := hy.tupE
    refine .inr (.inr (.inr ⟨a, b, vs, ws, rfl, rfl, same_sqT s h1, same_sqT s h3, by rw [h2.length, h4.length]; exact hc, fun e => ?_, fun _ e => ?_, fun _ _ l hn => ?_⟩))
    · subst e; cases h2; exact k _ F H hy' (Grow.refl s)
    · subst e; cases h4; exact k _ F H (by rw [List.append_nil]; exact hx') (Grow.refl s)
    · have g := Grow.new (o := .tup (vs ++ ws)) s hn
      exact k _ _ _ (.tup upd_same ((RpAll.mono g.sF _ _ h2).append (RpAll.mono g.sF _ _ h4))) g
  · cases e
theorem bv_sub : BinV K (rI0 fun i j => .int (i - j)) opSub := bv_I0 (h := fun i j => .int (i - j)) (fun p q z e => by unfold opSub at e; split at e <;> cases e; exact ⟨_, _, rfl, rfl, rfl⟩) fun _ _ _ => .int _
def rMulZ : R2 := fun x y H Q => (rI CMul fun i j => .int (i * j)) x y H Q ∨ rRep x y H Q
theorem or_mul {X : Cx} : OpR X (binaryOp .Mult) rMulZ := OpR.or op_mul op_rep
theorem rp_rep {F : Hp} {vs : List V} {ps : List P} (h : RpAll K F vs ps) : ∀ n : Nat, RpAll K F (List.replicate n vs).flatten (List.replicate n ps).flatten
  | 0 => .nil
  | n + 1 => by
    rw [List.replicate_succ, List.replicate_succ, List.flatten_cons, List.flatten_cons]
    exact h.append (rp_rep h n)
theorem bv_mul : BinV K rMulZ opMul := fun p q z x y F H Q e hx hy s k => by
  unfold opMul at e
  split at e
  · obtain ⟨hc, rfl⟩ := if_some e
    exact .inl ⟨_, _, hx.int, hy.int, hc, k _ F H (.int _) (Grow.refl s)⟩
  · obtain ⟨⟨hc1, hc2⟩, rfl⟩ := if_some e
    obtain ⟨a, vs, rfl, h1, h2⟩ := hx.lstE s
    refine .inr ⟨a, _, vs, rfl, hy.int, h1, hc1.1, hc1.2, by rw [h2.length]; exact hc2, fun p hp => ?_⟩
    exact k _ _ _ (.lst upd_same (rp_rep (RpAll.mono (Grow.new s hp).sF _ _ h2) _)) (Grow.new s hp)
  · cases e
theorem bv_mod : BinV K (rI (fun _ j => 0 < j) fun i j => .int (i % j)) opMod := bv_I (h := fun i j => .int (i % j)) (fun p q z e => by
  unfold opMod at e; split at e
  · obtain ⟨hc, rfl⟩ := if_some e; exact ⟨_, _, rfl, rfl, hc, rfl⟩
  · cases e) fun _ _ _ => .int _
theorem bv_div : BinV K (rI CDiv fun i j => .int (i / j)) opDiv := bv_I (h := fun i j => .int (i / j)) (fun p q z e => by
  unfold opDiv at e; split at e
  · obtain ⟨hc, rfl⟩ := if_some e; exact ⟨_, _, rfl, rfl, hc, rfl⟩
  · cases e) fun _ _ _ => .int _
theorem bv_pow : BinV K (rI CPow fun i j => .int (i ^ j.toNat)) opPow := bv_I (h := fun i j => .int (i ^ j.toNat)) (fun p q z e => by
  unfold opPow at e; split at e
  · obtain ⟨hc, rfl⟩ := if_some e; exact ⟨_, _, rfl, rfl, hc, rfl⟩
  · cases e) fun _ _ _ => .int _
theorem bv_shl : BinV K (rI CPow fun i j => .int (i * 2 ^ j.toNat)) opShl := bv_I (h := fun i j => .int (i * 2 ^ j.toNat)) (fun p q z e => by
  unfold opShl at e; split at e
  · obtain ⟨hc, rfl⟩ := if_some e; exact ⟨_, _, rfl, rfl, hc, rfl⟩
  · cases e) fun _ _ _ => .int _
theorem bv_shr : BinV K (rI (fun _ j => 0 ≤ j) fun i j => .int (i / 2 ^ j.toNat)) opShr := bv_I (h := fun i j => .int (i / 2 ^ j.toNat)) (fun p q z e => by
  unfold opShr at e; split at e
  · obtain ⟨hc, rfl⟩ := if_some e; exact ⟨_, _, rfl, rfl, hc, rfl⟩
  · cases e) fun _ _ _ => .int _
theorem bv_band : BinV K (rI0 fun i j => .int (Builtin.bitAnd i j)) opBand := bv_I0 (h := fun i j => .int (Builtin.bitAnd i j)) (fun p q z e => by unfold opBand at e; split at e <;> cases e; exact ⟨_, _, rfl, rfl, rfl⟩) fun _ _ _ => .int _
theorem bv_bor : BinV K (rI0 fun i j => .int (Builtin.bitOr i j)) opBor := bv_I0 (h := fun i j => .int (Builtin.bitOr i j)) (fun p q z e => by unfold opBor at e; split at e <;> cases e; exact ⟨_, _, rfl, rfl, rfl⟩) fun _ _ _ => .int _

/-! ### comparisons -/
def opEq (p q : P) : Option P := if fin dpt p = true ∧ fin dpt q = true then some (.bl (eqv p q)) else none
def opNe (p q : P) : Option P := if fin dpt p = true ∧ fin dpt q = true then some (.bl (!eqv p q)) else none
theorem bv_eq : BinV K (rEqD K.K) opEq := fun p q z x y F H Q e hx hy s k => by
  obtain ⟨⟨h1, h2⟩, rfl⟩ := if_some e
  refine ⟨py p, py q, rp_dp _ _ _ h1 (hx.rd s), rp_dp _ _ _ h2 (hy.rd s), fin_shaped h1, fin_shaped h2, ?_⟩
  rw [fin_py dpt p q h1 h2]
  exact k _ F H (.bl _) (Grow.refl s)
theorem bv_ne : BinV K (rNeD K.K) opNe := fun p q z x y F H Q e hx hy s k => by
  obtain ⟨⟨h1, h2⟩, rfl⟩ := if_some e
  refine ⟨py p, py q, rp_dp _ _ _ h1 (hx.rd s), rp_dp _ _ _ h2 (hy.rd s), fin_shaped h1, fin_shaped h2, ?_⟩
  rw [fin_py dpt p q h1 h2]
  exact k _ F H (.bl _) (Grow.refl s)
def cmpI (g : Int → Int → Bool) : P → P → Option P
  | .int m, .int n => some (.bl (g m n))
  | _, _ => none
theorem bv_cmpI {g : Int → Int → Bool} : BinV K (rI0 fun i j => .bl (g i j)) (cmpI g) := bv_I0 (h := fun i j => .bl (g i j)) (fun p q z e => by unfold cmpI at e; split at e <;> cases e; exact ⟨_, _, rfl, rfl, rfl⟩) fun _ _ _ => .bl _
abbrev opLt := cmpI fun i j => decide (i < j)
abbrev opLe := cmpI fun i j => decide (i ≤ j)
abbrev opGt := cmpI fun i j => decide (j < i)
abbrev opGe := cmpI fun i j => decide (j ≤ i)
def isNon : P → Bool
  | .non => true
  | _ => false
def opIsN (p : P) : P → Option P
  | .non => some (.bl (isNon p))
  | .bl b => match p with
    | .bl c => some (.bl (c == b))
    | _ => none
  | _ => none
theorem isN_vw {F H : Hp} {v : V} {p : P} (h : Vw K F H v p) : decide (v = .non) = (isNon p) := by
  cases h with
  | p h => cases h <;> rfl
  | lst => rfl
  | dicK => rfl
  | dicN => rfl
  | ins => rfl
def rIsZ : R2 := fun x y H Q => (fun x y H Q => y = .non ∧ Q (.bl (decide (x = .non))) H) x y H Q ∨ rIsB x y H Q
theorem or_is {X : Cx} : OpR X (compareOp .Is) rIsZ := OpR.or op_isN op_isBl
theorem bv_is : BinV K rIsZ opIsN := fun p q z x y F H Q e hx hy s k => by
  unfold opIsN at e
  split at e
  · cases e
    exact .inl ⟨hy.non, k _ F H (by rw [isN_vw hx]; exact .bl _) (Grow.refl s)⟩
  · split at e
    · cases e
      rename_i b c
      cases hx.bl; cases hy.bl
      exact .inr ⟨_, _, rfl, rfl, k _ F H (by cases b <;> cases c <;> exact .bl _) (Grow.refl s)⟩
    · cases e
  · cases e
def opNotN (p : P) : P → Option P
  | .non => some (.bl (!isNon p))
  | .bl b => match p with
    | .bl c => some (.bl (c != b))
    | _ => none
  | _ => none
def rNotZ : R2 := fun x y H Q => (fun x y H Q => y = .non ∧ Q (.bl (!decide (x = .non))) H) x y H Q ∨ rNotB x y H Q
theorem or_isnt {X : Cx} : OpR X (compareOp .IsNot) rNotZ := OpR.or op_notN op_notBl
theorem bv_isnt : BinV K rNotZ opNotN := fun p q z x y F H Q e hx hy s k => by
  unfold opNotN at e
  split at e
  · cases e
    exact .inl ⟨hy.non, k _ F H (by rw [isN_vw hx]; exact .bl _) (Grow.refl s)⟩
  · split at e
    · cases e
      rename_i b c
      cases hx.bl; cases hy.bl
      exact .inr ⟨_, _, rfl, rfl, k _ F H (by cases b <;> cases c <;> exact .bl _) (Grow.refl s)⟩
    · cases e
  · cases e
/-! in -/
def opIn : P → P → Option P
  | p, .lst qs => if fin dpt p = true ∧ fin dpt (.lst qs) = true then some (.bl (qs.any fun z => eqv z p)) else none
  | p, .tup qs => if fin dpt p = true ∧ fin dpt (.tup qs) = true then some (.bl (qs.any fun z => eqv z p)) else none
  | .str x, .str y => some (.bl (!(Builtin.Str.occurrences y x 0 y.length 1).isEmpty))
  | _, _ => none
def notP : Option P → Option P
  | some (.bl b) => some (.bl !b)
  | _ => none
def opNotIn (p q : P) : Option P := notP (opIn p q)
def rInDT (K : PySem.W.Frag) : R2 := fun x y H Q => ∃ d ds, Dp K H x d ∧ Dp K H y (.tuple ds) ∧ SeqAt.shaped d = true ∧ SeqAt.shaped (.tuple ds) = true ∧ Q (.bl (ds.any fun z => PyData.eqv z d)) H
def rNotInDT (K : PySem.W.Frag) : R2 := fun x y H Q => ∃ d ds, Dp K H x d ∧ Dp K H y (.tuple ds) ∧ SeqAt.shaped d = true ∧ SeqAt.shaped (.tuple ds) = true ∧ Q (.bl (!ds.any fun z => PyData.eqv z d)) H
theorem op_inDT {X : Cx} (hu : X.A.units + 65 < cLine) : OpR X (compareOp .In) (rInDT X.K) := by
  intro pins s σ H x y v u Q I rx ry h
  obtain ⟨d, ds, hd, he, sd, se, q⟩ := h
  obtain ⟨as, r1⟩ := Dp.reads I d x v hd rx
  obtain ⟨bs, r2⟩ := Dp.reads I (.tuple ds) y u he ry
  exact SeqAt.in_tuple_reads r2 r1 (SeqAt.canLay_of_shaped se) (SeqAt.canLay_of_shaped sd) (room_in_shaped sd hu) ⟨.bl _, H, I, rfl, q⟩
theorem op_notInDT {X : Cx} (hu : X.A.units + 65 < cLine) : OpR X (compareOp .NotIn) (rNotInDT X.K) := by
  intro pins s σ H x y v u Q I rx ry h
  obtain ⟨d, ds, hd, he, sd, se, q⟩ := h
  obtain ⟨as, r1⟩ := Dp.reads I d x v hd rx
  obtain ⟨bs, r2⟩ := Dp.reads I (.tuple ds) y u he ry
  exact SeqAt.notIn_tuple_reads r2 r1 (SeqAt.canLay_of_shaped se) (SeqAt.canLay_of_shaped sd) (room_in_shaped sd hu) ⟨.bl _, H, I, rfl, q⟩
theorem any_py {p : P} (hp : fin dpt p = true) : ∀ {qs : List P}, (∀ q ∈ qs, fin dpt q = true) → ((pyAll qs).any fun z => PyData.eqv z (py p)) = qs.any fun z => eqv z p
  | [], _ => rfl
  | q :: qs, h => by
    simp only [pyAll, List.any_cons]
    rw [fin_py dpt q p (h q (List.mem_cons_self ..)) hp, any_py hp fun z hz => h z (List.mem_cons_of_mem _ hz)]
theorem fin_mono : ∀ {n m : Nat} {d : P}, fin n d = true → n ≤ m → fin m d = true := by
  intro n
  induction n with
  | zero =>
    intro m d h _
    cases d <;> first | (cases h; done) | skip
    all_goals (cases m <;> exact h)
  | succ n ih =>
    intro m d h hm
    cases m with
    | zero => omega
    | succ m =>
      cases d <;> first | (cases h; done) | skip
      all_goals first
        | exact h
        | exact List.all_eq_true.mpr fun x hx => ih (List.all_eq_true.mp h x hx) (by omega)
def rInZ (K : PySem.W.Frag) : R2 := fun x y H Q => rInD K x y H Q ∨ rInDT K x y H Q ∨ (fun x y H Q => ∃ i j : Str, x = .str i ∧ y = .str j ∧ Q (.bl (!(Builtin.Str.occurrences j i 0 j.length 1).isEmpty)) H) x y H Q
theorem or_in {X : Cx} (hu : X.A.units + 65 < cLine) : OpR X (compareOp .In) (rInZ X.K) := OpR.or (op_inD hu) (OpR.or (op_inDT hu) op_in_str)
theorem bv_in : BinV K (rInZ K.K) opIn := fun p q z x y F H Q e hx hy s k => by
  unfold opIn at e
  split at e
  · rename_i qs
    obtain ⟨⟨h1, h2⟩, rfl⟩ := if_some e
    have all := List.all_eq_true.mp (show qs.all (fin 23) = true from h2)
    refine .inl ⟨py p, pyAll qs, rp_dp _ _ _ h1 (hx.rd s), rp_dp _ _ _ h2 (hy.rd s), fin_shaped h1, fin_shaped h2, ?_⟩
    rw [any_py h1 fun q hq => fin_mono (all q hq) (by decide)]
    exact k _ F H (.bl _) (Grow.refl s)
  · rename_i qs
    obtain ⟨⟨h1, h2⟩, rfl⟩ := if_some e
    have all := List.all_eq_true.mp (show qs.all (fin 23) = true from h2)
    refine .inr (.inl ⟨py p, pyAll qs, rp_dp _ _ _ h1 (hx.rd s), rp_dp _ _ _ h2 (hy.rd s), fin_shaped h1, fin_shaped h2, ?_⟩)
    rw [any_py h1 fun q hq => fin_mono (all q hq) (by decide)]
    exact k _ F H (.bl _) (Grow.refl s)
  · cases e
    exact .inr (.inr ⟨_, _, hx.str, hy.str, k _ F H (.bl _) (Grow.refl s)⟩)
  · cases e
def rNotInZ (K : PySem.W.Frag) : R2 := fun x y H Q => rNotInD K x y H Q ∨ rNotInDT K x y H Q ∨ (fun x y H Q => ∃ i j : Str, x = .str i ∧ y = .str j ∧ Q (.bl (!(!(Builtin.Str.occurrences j i 0 j.length 1).isEmpty))) H) x y H Q
theorem or_notin {X : Cx} (hu : X.A.units + 65 < cLine) : OpR X (compareOp .NotIn) (rNotInZ X.K) := OpR.or (op_notInD hu) (OpR.or (op_notInDT hu) op_notin_str)
theorem bv_notin : BinV K (rNotInZ K.K) opNotIn := fun p q z x y F H Q e hx hy s k => by
  unfold opNotIn opIn at e
  split at e
  · rename_i qs
    split at e
    · rename_i hc
      obtain ⟨h1, h2⟩ := hc
      cases e
      have all := List.all_eq_true.mp (show qs.all (fin 23) = true from h2)
      refine .inl ⟨py p, pyAll qs, rp_dp _ _ _ h1 (hx.rd s), rp_dp _ _ _ h2 (hy.rd s), fin_shaped h1, fin_shaped h2, ?_⟩
      rw [any_py h1 fun q hq => fin_mono (all q hq) (by decide)]
      exact k _ F H (.bl _) (Grow.refl s)
    · cases e
  · rename_i qs
    split at e
    · rename_i hc
      obtain ⟨h1, h2⟩ := hc
      cases e
      have all := List.all_eq_true.mp (show qs.all (fin 23) = true from h2)
      refine .inr (.inl ⟨py p, pyAll qs, rp_dp _ _ _ h1 (hx.rd s), rp_dp _ _ _ h2 (hy.rd s), fin_shaped h1, fin_shaped h2, ?_⟩)
      rw [any_py h1 fun q hq => fin_mono (all q hq) (by decide)]
      exact k _ F H (.bl _) (Grow.refl s)
    · cases e
  · cases e
    exact .inr (.inr ⟨_, _, hx.str, hy.str, k _ F H (.bl _) (Grow.refl s)⟩)
  · cases e
end
end Z

namespace Z
open PySem PySem.Spec PyProof.Rows L2
section
variable {C : Kx} {a b c e : Expr} {es rest : List Expr} {pos p : Pos} {x : Str} {m m1 m2 m3 : M} {t t1 t2 : MT} {ma : MA} {K : Fr}
/-! ### by operators -/
theorem ej_add (h1 : Ej C m1 a) (h2 : Ej C m2 b) : Ej C (eB opAdd m1 m2) (.BinOp a .Add b pos) := ej_bin or_add bv_add h1 h2
theorem ej_sub (h1 : Ej C m1 a) (h2 : Ej C m2 b) : Ej C (eB opSub m1 m2) (.BinOp a .Sub b pos) := ej_bin op_sub bv_sub h1 h2
theorem ej_mul (h1 : Ej C m1 a) (h2 : Ej C m2 b) : Ej C (eB opMul m1 m2) (.BinOp a .Mult b pos) := ej_bin or_mul bv_mul h1 h2
theorem ej_mod (h1 : Ej C m1 a) (h2 : Ej C m2 b) : Ej C (eB opMod m1 m2) (.BinOp a .Mod b pos) := ej_bin op_mod bv_mod h1 h2
theorem ej_fdiv (h1 : Ej C m1 a) (h2 : Ej C m2 b) : Ej C (eB opDiv m1 m2) (.BinOp a .FloorDiv b pos) := ej_bin op_fdiv bv_div h1 h2
theorem ej_pow (h1 : Ej C m1 a) (h2 : Ej C m2 b) : Ej C (eB opPow m1 m2) (.BinOp a .Pow b pos) := ej_bin op_pow bv_pow h1 h2
theorem ej_shl (h1 : Ej C m1 a) (h2 : Ej C m2 b) : Ej C (eB opShl m1 m2) (.BinOp a .LShift b pos) := ej_bin op_shl bv_shl h1 h2
theorem ej_shr (h1 : Ej C m1 a) (h2 : Ej C m2 b) : Ej C (eB opShr m1 m2) (.BinOp a .RShift b pos) := ej_bin op_shr bv_shr h1 h2
theorem ej_band (h1 : Ej C m1 a) (h2 : Ej C m2 b) : Ej C (eB opBand m1 m2) (.BinOp a .BitAnd b pos) := ej_bin op_and bv_band h1 h2
theorem ej_bor (h1 : Ej C m1 a) (h2 : Ej C m2 b) : Ej C (eB opBor m1 m2) (.BinOp a .BitOr b pos) := ej_bin op_or bv_bor h1 h2
abbrev Mk (op : CmpOp) (b : Expr) : Prop := behindInMarks op b = false
theorem ej_eq (hu : C.X.A.units + 64 < cLine) (h1 : Ej C m1 a) (h2 : Ej C m2 b) (hm : Mk .Eq b := by first | exact nomark _ | rfl) : Ej C (eB opEq m1 m2) (.Compare a [.Eq] [b] pos) := ej_cmp (op_eqD hu) bv_eq h1 h2 hm
theorem ej_ne (hu : C.X.A.units + 64 < cLine) (h1 : Ej C m1 a) (h2 : Ej C m2 b) (hm : Mk .NotEq b := by first | exact nomark _ | rfl) : Ej C (eB opNe m1 m2) (.Compare a [.NotEq] [b] pos) := ej_cmp (op_neD hu) bv_ne h1 h2 hm
theorem ej_lt (h1 : Ej C m1 a) (h2 : Ej C m2 b) (hm : Mk .Lt b := by first | exact nomark _ | rfl) : Ej C (eB opLt m1 m2) (.Compare a [.Lt] [b] pos) := ej_cmp op_lt bv_cmpI h1 h2 hm
theorem ej_le (h1 : Ej C m1 a) (h2 : Ej C m2 b) (hm : Mk .LtE b := by first | exact nomark _ | rfl) : Ej C (eB opLe m1 m2) (.Compare a [.LtE] [b] pos) := ej_cmp op_le bv_cmpI h1 h2 hm
theorem ej_gt (h1 : Ej C m1 a) (h2 : Ej C m2 b) (hm : Mk .Gt b := by first | exact nomark _ | rfl) : Ej C (eB opGt m1 m2) (.Compare a [.Gt] [b] pos) := ej_cmp op_gt bv_cmpI h1 h2 hm
theorem ej_ge (h1 : Ej C m1 a) (h2 : Ej C m2 b) (hm : Mk .GtE b := by first | exact nomark _ | rfl) : Ej C (eB opGe m1 m2) (.Compare a [.GtE] [b] pos) := ej_cmp op_ge bv_cmpI h1 h2 hm
theorem ej_is (h1 : Ej C m1 a) (h2 : Ej C m2 b) (hm : Mk .Is b := by first | exact nomark _ | rfl) : Ej C (eB opIsN m1 m2) (.Compare a [.Is] [b] pos) := ej_cmp or_is bv_is h1 h2 hm
theorem ej_isnt (h1 : Ej C m1 a) (h2 : Ej C m2 b) (hm : Mk .IsNot b := by first | exact nomark _ | rfl) : Ej C (eB opNotN m1 m2) (.Compare a [.IsNot] [b] pos) := ej_cmp or_isnt bv_isnt h1 h2 hm
theorem ej_in (hu : C.X.A.units + 65 < cLine) (h1 : Ej C m1 a) (h2 : Ej C m2 b) (hm : Mk .In b := by first | exact nomark _ | rfl) : Ej C (eB opIn m1 m2) (.Compare a [.In] [b] pos) := ej_cmp (or_in hu) bv_in h1 h2 hm
theorem ej_notin (hu : C.X.A.units + 65 < cLine) (h1 : Ej C m1 a) (h2 : Ej C m2 b) (hm : Mk .NotIn b := by first | exact nomark _ | rfl) : Ej C (eB opNotIn m1 m2) (.Compare a [.NotIn] [b] pos) := ej_cmp (or_notin hu) bv_notin h1 h2 hm
theorem tj_eq (hu : C.X.A.units + 64 < cLine) (h1 : Ej C m1 a) (h2 : Ej C m2 b) (hm : Mk .Eq b := by first | exact nomark _ | rfl) : Tj C (tB opEq m1 m2) (.Compare a [.Eq] [b] pos) := tj_cmp (op_eqD hu) bv_eq h1 h2 hm
theorem tj_ne (hu : C.X.A.units + 64 < cLine) (h1 : Ej C m1 a) (h2 : Ej C m2 b) (hm : Mk .NotEq b := by first | exact nomark _ | rfl) : Tj C (tB opNe m1 m2) (.Compare a [.NotEq] [b] pos) := tj_cmp (op_neD hu) bv_ne h1 h2 hm
theorem tj_lt (h1 : Ej C m1 a) (h2 : Ej C m2 b) (hm : Mk .Lt b := by first | exact nomark _ | rfl) : Tj C (tB opLt m1 m2) (.Compare a [.Lt] [b] pos) := tj_cmp op_lt bv_cmpI h1 h2 hm
theorem tj_le (h1 : Ej C m1 a) (h2 : Ej C m2 b) (hm : Mk .LtE b := by first | exact nomark _ | rfl) : Tj C (tB opLe m1 m2) (.Compare a [.LtE] [b] pos) := tj_cmp op_le bv_cmpI h1 h2 hm
theorem tj_gt (h1 : Ej C m1 a) (h2 : Ej C m2 b) (hm : Mk .Gt b := by first | exact nomark _ | rfl) : Tj C (tB opGt m1 m2) (.Compare a [.Gt] [b] pos) := tj_cmp op_gt bv_cmpI h1 h2 hm
theorem tj_ge (h1 : Ej C m1 a) (h2 : Ej C m2 b) (hm : Mk .GtE b := by first | exact nomark _ | rfl) : Tj C (tB opGe m1 m2) (.Compare a [.GtE] [b] pos) := tj_cmp op_ge bv_cmpI h1 h2 hm
theorem tj_is (h1 : Ej C m1 a) (h2 : Ej C m2 b) (hm : Mk .Is b := by first | exact nomark _ | rfl) : Tj C (tB opIsN m1 m2) (.Compare a [.Is] [b] pos) := tj_cmp or_is bv_is h1 h2 hm
theorem tj_isnt (h1 : Ej C m1 a) (h2 : Ej C m2 b) (hm : Mk .IsNot b := by first | exact nomark _ | rfl) : Tj C (tB opNotN m1 m2) (.Compare a [.IsNot] [b] pos) := tj_cmp or_isnt bv_isnt h1 h2 hm
theorem tj_in (hu : C.X.A.units + 65 < cLine) (h1 : Ej C m1 a) (h2 : Ej C m2 b) (hm : Mk .In b := by first | exact nomark _ | rfl) : Tj C (tB opIn m1 m2) (.Compare a [.In] [b] pos) := tj_cmp (or_in hu) bv_in h1 h2 hm
theorem tj_notin (hu : C.X.A.units + 65 < cLine) (h1 : Ej C m1 a) (h2 : Ej C m2 b) (hm : Mk .NotIn b := by first | exact nomark _ | rfl) : Tj C (tB opNotIn m1 m2) (.Compare a [.NotIn] [b] pos) := tj_cmp (or_notin hu) bv_notin h1 h2 hm
/-! -a -/
def lift1 (f : P → Option P) (d : D) (S : Store) : Rs D := match view S d with
  | some p => match f p with
    | some r => .ok (.p r) S
    | none => .no
  | none => .no
def eU (f : P → Option P) (m : M) : M := fun sl S => (m sl S).bind fun d S1 => lift1 f d S1
def opNeg : P → Option P
  | .int n => some (.int (-n))
  | _ => none
theorem ej_neg (h : Ej C m a) : Ej C (eU opNeg m) (.UnaryOp .USub a pos) := .mk fun sl S σ F R H hs hr Q post =>
  ED.of (pe_un un_neg pe_d) (h sl S σ F R H hs hr _ (Post.bind post fun d S1 x F1 R1 H1 _ rx rep1 s1 r1 post1 => by
    unfold lift1 at post1
    cases hv : view S1 d with
    | none => rw [hv] at post1; exact post1.elim
    | some q =>
      rw [hv] at post1
      cases q with
      | int n => exact ⟨n, (view_vw rx rep1 hv).int, post1.okv (show RelD C.K F1 R1 (.int (-n)) (.p (.int (-n))) from .int _) rep1⟩
      | _ => exact post1.elim))
/-! a < b <= c on ints -/
def asI (S : Store) (d : D) : Rs Int := match view S d with
  | some (.int i) => .ok i S
  | _ => .no
theorem asI_post {β : Type} {σ : L2.St} {F H : Hp} {R : List Addr} {S : Store} {d : D} {v : V} {rel : Hp → List Addr → β → D → Prop} {Q : β → Hp → Prop} {f : Int → Store → Rs D} (rv : RelD C.K F R v d) (rep : Rep C.K C.G F R S H) (post : Post C σ F R rel Q ((asI S d).bind f)) : ∃ i, v = .int i ∧ Post C σ F R rel Q (f i S) := by
  unfold asI at post
  cases hv : view S d with
  | none => rw [hv] at post; exact post.elim
  | some q =>
    rw [hv] at post
    cases q with
    | int n => exact ⟨n, (view_vw rv rep hv).int, post⟩
    | _ => exact post.elim
def eCh (f g : Int → Int → Bool) (m1 m2 m3 : M) : M := fun sl S => (m1 sl S).bind fun d1 S1 => (m2 sl S1).bind fun d2 S2 => (asI S2 d1).bind fun i S2 => (asI S2 d2).bind fun j S2 =>
  if f i j = true then (m3 sl S2).bind fun d3 S3 => (asI S3 d3).bind fun k S3 => .ok (.p (.bl (g j k))) S3 else .ok (.p (.bl false)) S2
theorem ej_chain {op op' : CmpOp} {f g : Int → Int → Bool} (ho : OpR C.X (compareOp op) (rI0 fun i j => .bl (f i j))) (ho' : OpR C.X (compareOp op') (rI0 fun i j => .bl (g i j))) (h1 : Ej C m1 a) (h2 : Ej C m2 b) (h3 : Ej C m3 c)
    (hm : lastMarks [op, op'] [b, c] = false := by with_unfolding_all rfl) : Ej C (eCh f g m1 m2 m3) (.Compare a [op, op'] [b, c] pos) := .mk fun sl S σ F R H hs hr Q post =>
  ED.of (pe_chain ho ho' pe_d pe_d pe_d hm) (h1 sl S σ F R H hs hr _ (Post.bind post fun d1 S1 x F1 R1 H1 _ rx rep1 s1 r1 post1 => h2 sl S1 σ F1 R1 H1 (hs.mono s1 r1) rep1 _ (Post.bind post1 fun d2 S2 y F2 R2 H2 _ ry rep2 s2 r2 post2 => by
    obtain ⟨i, rfl, post2⟩ := asI_post (rx.mono s2 r2) rep2 post2
    obtain ⟨j, rfl, post2⟩ := asI_post ry rep2 post2
    refine ⟨i, j, rfl, rfl, f i j, rfl, ?_⟩
    cases hf : f i j with
    | false =>
      rw [hf] at post2
      show Q (.bl false) H2
      exact Post.okv (show Post C σ F2 R2 (RelD C.K) Q (.ok (.p (.bl false)) S2) from post2) (show RelD C.K F2 R2 (.bl false) (.p (.bl false)) from .bl _) rep2
    | true =>
      rw [hf] at post2
      show ED C.X c σ H2 _
      have post2 : Post C σ F2 R2 (RelD C.K) Q ((m3 sl S2).bind fun d3 S3 => (asI S3 d3).bind fun k S3 => .ok (.p (.bl (g j k))) S3) := post2
      refine h3 sl S2 σ F2 R2 H2 ((hs.mono s1 r1).mono s2 r2) rep2 _ (Post.bind post2 fun d3 S3 z F3 R3 H3 _ rz rep3 s3 r3 post3 => ?_)
      obtain ⟨k, rfl, post3⟩ := asI_post rz rep3 post3
      exact ⟨j, k, rfl, rfl, post3.okv (show RelD C.K F3 R3 (.bl (g j k)) (.p (.bl (g j k))) from .bl _) rep3⟩)))
theorem ej_lele (h1 : Ej C m1 a) (h2 : Ej C m2 b) (h3 : Ej C m3 c) (hm : lastMarks [.LtE, .LtE] [b, c] = false := by with_unfolding_all rfl) : Ej C (eCh (fun i j => decide (i ≤ j)) (fun i j => decide (i ≤ j)) m1 m2 m3) (.Compare a [.LtE, .LtE] [b, c] pos) := ej_chain op_le op_le h1 h2 h3 hm
theorem ej_lelt (h1 : Ej C m1 a) (h2 : Ej C m2 b) (h3 : Ej C m3 c) (hm : lastMarks [.LtE, .Lt] [b, c] = false := by with_unfolding_all rfl) : Ej C (eCh (fun i j => decide (i ≤ j)) (fun i j => decide (i < j)) m1 m2 m3) (.Compare a [.LtE, .Lt] [b, c] pos) := ej_chain op_le op_lt h1 h2 h3 hm
theorem ej_ltlt (h1 : Ej C m1 a) (h2 : Ej C m2 b) (h3 : Ej C m3 c) (hm : lastMarks [.Lt, .Lt] [b, c] = false := by with_unfolding_all rfl) : Ej C (eCh (fun i j => decide (i < j)) (fun i j => decide (i < j)) m1 m2 m3) (.Compare a [.Lt, .Lt] [b, c] pos) := ej_chain op_lt op_lt h1 h2 h3 hm

/-! ### a[i] -/
def ixP : P → P → Option P
  | .lst ps, .int i => atI ps i
  | .tup ps, .int i => atI ps i
  | .str z, .int i => if z.length ≤ sizeLine then (atI z.cps.toList i).map (fun c => .str ⟨#[c]⟩) else none
  | .scr ns, .int i => (atI ns i).map .int
  | _, _ => none
theorem atI_rp {F : Hp} {ds : List P} {vs : List V} {k : Int} {d : P} (h : RpAll K F vs ds) (e : atI ds k = some d) : ∃ v, atI vs k = some v ∧ Rp K F v d := by
  unfold atI at e ⊢
  rw [h.length]
  cases hj : ixN ds.length k with
  | none => rw [hj] at e; cases e
  | some j =>
    rw [hj] at e
    obtain ⟨v, e1, e2⟩ := h.get' (i := j) (d := d) e
    exact ⟨v, e1, e2⟩
theorem atI_map {α β : Type} {f : α → β} {xs : List α} {i : Int} {y : α} (h : atI xs i = some y) : atI (xs.map f) i = some (f y) := by
  unfold atI at h ⊢
  rw [List.length_map]
  cases hj : ixN xs.length i with
  | none => rw [hj] at h; cases h
  | some j =>
    rw [hj] at h
    show (xs.map f)[j]? = _
    rw [List.getElem?_map, show xs[j]? = some y from h]
    rfl
def rIxZ (K : PySem.W.Frag) : R2 := fun x y H Q => rIxL K x y H Q ∨ rIxT K x y H Q ∨ rIxS x y H Q
theorem ix_z {X : Cx} : IxR X (rIxZ X.K) := IxR.or ix_list (IxR.or ix_tup ix_str)
theorem bv_ix : BinV K (rIxZ K.K) ixP := fun p q z x y F H Q e hx hy s k => by
  unfold ixP at e
  split at e
  · obtain ⟨a, vs, rfl, h1, h2⟩ := hx.lstE s
    obtain ⟨v, e1, e2⟩ := atI_rp h2 e
    exact .inl ⟨_, _, _, v, rfl, hy.int, .inl (.inl h1), e1, k _ F H e2 (Grow.refl s)⟩
  · obtain ⟨a, vs, rfl, h1, h2⟩ := hx.tupE
    obtain ⟨v, e1, e2⟩ := atI_rp h2 e
    exact .inr (.inl ⟨_, _, _, v, rfl, hy.int, same_sqT s h1, e1, k _ F H e2 (Grow.refl s)⟩)
  · rename_i z' i
    split at e
    · rename_i hz
      cases hc : atI z'.cps.toList i with
      | none => rw [hc] at e; cases e
      | some c =>
        rw [hc] at e; cases e
        exact .inr (.inr ⟨_, _, c, hx.str, hy.int, hz, hc, k _ F H (.str _) (Grow.refl s)⟩)
    · cases e
  · rename_i ns i
    cases hc : atI ns i with
    | none => rw [hc] at e; cases e
    | some n =>
      rw [hc] at e; cases e
      obtain ⟨a, rfl, h1⟩ := hx.scrE s
      exact .inl ⟨a, _, _, .int n, rfl, hy.int, h1, atI_map hc, k _ F H (.int _) (Grow.refl s)⟩
  · cases e
theorem ej_at (h1 : Ej C m1 a) (h2 : Ej C m2 b) (hs : PlainIx b := by exact fun _ _ => rfl) : Ej C (eB ixP m1 m2) (.Subscript a b pos) := ej_ix ix_z bv_ix h1 h2 hs

/-! ### a[i:j] -/
def cutD {α : Type} (ds : List α) (lo hi : Option Int) : List α := (ds.drop (HT.sIx ds.length 0 lo)).take (HT.sIx ds.length ds.length hi - HT.sIx ds.length 0 lo)
theorem cut_rp {F : Hp} {vs : List V} {ds : List P} {lo hi : Option Int} (h : RpAll K F vs ds) : RpAll K F (cutV vs lo hi) (cutD ds lo hi) := by
  unfold cutV cutD
  rw [h.length]
  exact (h.drop _).take _
theorem cutV_tup {F : Hp} {vs : List V} {ds : List P} {lo hi : Option Int} (h : RpAll K F vs ds) (hw : HT.sIx vs.length 0 lo = 0 ∧ HT.sIx vs.length vs.length hi = vs.length) : cutD ds lo hi = ds := by
  unfold cutD
  rw [h.length] at hw
  rw [hw.1, hw.2, List.drop_zero, Nat.sub_zero, List.take_length]
def slP (lo hi : Option Int) : P → Option P
  | .lst ps => some (.lst (cutD ps lo hi))
  | .tup ps => some (.tup (cutD ps lo hi))
  | .str z => if z.length ≤ sizeLine then some (.str (cutS z lo hi)) else none
  | .scr ns => some (.lst ((cutD ns lo hi).map .int))
  | _ => none
abbrev MO := Slots → Store → Rs (Option Int)
def oN : MO := fun _ S => .ok none S
def oS (m : M) : MO := fun sl S => (m sl S).bind fun d S1 => (asI S1 d).bind fun i S1 => .ok (some i) S1
def Oj (C : Kx) (m : MO) (o : Option Expr) : Prop := ∃ t, PO C.X o t ∧ ∀ sl S σ F R H, SlR C.K F R σ sl → Rep C.K C.G F R S H → ∀ Q : Option Int → Hp → Prop, Post C σ F R (fun _ _ b a => b = a) Q (m sl S) → t σ H Q
theorem oj_none : Oj C oN none := ⟨_, po_none, fun sl S σ F R H hs hr Q post => post.okv rfl hr⟩
theorem oj_some (h : Ej C m e) : Oj C (oS m) (some e) := ⟨_, po_some pe_d, fun sl S σ F R H hs hr Q post => h sl S σ F R H hs hr _ (Post.bind post fun d S1 x F1 R1 H1 _ rx rep1 s1 r1 post1 => by
  unfold asI at post1
  cases hv : view S1 d with
  | none => rw [hv] at post1; exact post1.elim
  | some q =>
    rw [hv] at post1
    cases q with
    | int n => exact ⟨n, (view_vw rx rep1 hv).int, post1.okv (b := some n) rfl rep1⟩
    | _ => exact post1.elim)⟩
def eSl (m : M) (lo hi : MO) : M := fun sl S => (m sl S).bind fun d S1 => (lo sl S1).bind fun l S2 => (hi sl S2).bind fun h S3 => lift1 (slP l h) d S3
def rSlZ (K : PySem.W.Frag) : V → Option Int → Option Int → Hp → VK → Prop := fun x lo hi H Q => rSlL K x lo hi H Q ∨ rSlA K x lo hi H Q ∨ rSlS x lo hi H Q
theorem sl_z {X : Cx} : L2.SlR X (rSlZ X.K) := L2.SlR.or sl_list (L2.SlR.or sl_tupA sl_str)
theorem cutV_ints (ns : List Int) (lo hi : Option Int) : cutV (ns.map V.int) lo hi = (cutD ns lo hi).map V.int := by
  unfold cutV cutD
  rw [List.length_map, List.map_take, List.map_drop]
theorem rp_ints {F : Hp} : ∀ ns : List Int, RpAll K F (ns.map V.int) (ns.map P.int)
  | [] => .nil
  | n :: ns => .cons (.int n) (rp_ints ns)
theorem ej_slice {lo hi : Option Expr} {p2 : Pos} {ml mh : MO} (h : Ej C m a) (hl : Oj C ml lo) (hh : Oj C mh hi) : Ej C (eSl m ml mh) (.Subscript a (.Slice lo hi none p2) pos) := .mk fun sl S σ F R H hs hr Q post => by
  obtain ⟨tl, pl, kl⟩ := hl
  obtain ⟨th, ph, kh⟩ := hh
  refine ED.of (pe_slice sl_z pe_d pl ph) (h sl S σ F R H hs hr _ (Post.bind post fun d S1 x F1 R1 H1 _ rx rep1 s1 r1 post1 => kl sl S1 σ F1 R1 H1 (hs.mono s1 r1) rep1 _ (Post.bind post1 fun l S2 l' F2 R2 H2 _ rl rep2 s2 r2 post2 =>
    kh sl S2 σ F2 R2 H2 ((hs.mono s1 r1).mono s2 r2) rep2 _ (Post.bind post2 fun u S3 u' F3 R3 H3 _ ru rep3 s3 r3 post3 => ?_))))
  cases (show l' = l from rl)
  cases (show u' = u from ru)
  unfold lift1 at post3
  cases hv : view S3 d with
  | none => rw [hv] at post3; exact post3.elim
  | some q =>
    rw [hv] at post3
    have vw := view_vw ((rx.mono s2 r2).mono s3 r3) rep3 hv
    have s := rep3.sub
    cases q with
    | lst ps =>
      obtain ⟨a, vs, rfl, h1, h2⟩ := vw.lstE s
      refine .inl ⟨a, vs, rfl, .inl (.inl h1), fun p hn => ?_⟩
      have g := Grow.new (o := .lst (cutV vs l u)) s hn
      exact post3 _ _ R3 _ (show RelD C.K _ R3 _ (.p (.lst (cutD ps l u))) from .lst upd_same (RpAll.mono g.sF _ _ (cut_rp h2))) (rep3.grow g) g.sF pre_refl
    | tup ps =>
      have hp := vw.tupP
      obtain ⟨a, vs, rfl, h1, h2⟩ := vw.tupE
      refine .inr (.inl ⟨a, vs, rfl, same_sqT s h1, fun hw => ?_, fun hw p hn => ?_⟩)
      · exact post3 _ _ R3 _ (show RelD C.K _ R3 _ (.p (.tup (cutD ps l u))) from by rw [cutV_tup h2 hw]; exact hp) rep3 (Same.refl _) pre_refl
      · have g := Grow.new (o := .tup (cutV vs l u)) s hn
        exact post3 _ _ R3 _ (show RelD C.K _ R3 _ (.p (.tup (cutD ps l u))) from .tup upd_same (RpAll.mono g.sF _ _ (cut_rp h2))) (rep3.grow g) g.sF pre_refl
    | str z =>
      by_cases hz : z.length ≤ sizeLine
      · simp only [slP, if_pos hz] at post3
        exact .inr (.inr ⟨z, vw.str, hz, post3.okv (show RelD C.K F3 R3 _ (.p (.str (cutS z l u))) from .str _) rep3⟩)
      · simp only [slP, if_neg hz] at post3
        exact post3.elim
    | scr ns =>
      obtain ⟨a, rfl, h1⟩ := vw.scrE s
      refine .inl ⟨a, _, rfl, h1, fun p hn => ?_⟩
      rw [cutV_ints]
      have g := Grow.new (o := .lst ((cutD ns l u).map V.int)) s hn
      exact post3 _ _ R3 _ (show RelD C.K _ R3 _ (.p (.lst ((cutD ns l u).map .int))) from .lst upd_same (rp_ints _)) (rep3.grow g) g.sF pre_refl
    | _ => exact post3.elim

/-! ### displays -/
def eL (ma : MA) : M := fun sl S => (ma sl S).bind fun ds S1 => match pures ds with
  | some ps => if ps.length ≤ sizeLine then .ok (.p (.lst ps)) S1 else .no
  | none => .no
def eT (ma : MA) : M := fun sl S => (ma sl S).bind fun ds S1 => match pures ds with
  | some ps => if ps.length ≤ sizeLine then .ok (.p (.tup ps)) S1 else .no
  | none => .no
/-- a live list -/
def eLL (ma : MA) : M := fun sl S => (ma sl S).bind fun ds S1 => if ds.length ≤ sizeLine then .ok (.ref S1.length) (S1 ++ [.lst ds]) else .no
theorem ej_lst (h : Aj C ma es) : Ej C (eL ma) (.List es pos) := .mk fun sl S σ F R H hs hr Q post =>
  ED.of (pe_lst pa_d) (h sl S σ F R H hs hr _ (Post.bind post fun ds S1 vs F1 R1 H1 _ rx rep1 s1 r1 post1 => by
    cases hp : pures ds with
    | none => rw [hp] at post1; exact post1.elim
    | some ps =>
      rw [hp] at post1
      by_cases hl : ps.length ≤ sizeLine
      · simp only [if_pos hl] at post1
        have e := pures_eq hp
        subst e
        have rp := rx.to_p
        refine ⟨by rw [rp.length]; exact hl, fun l hn => ?_⟩
        have g := Grow.new (o := .lst vs) rep1.sub hn
        exact post1 _ _ R1 _ (show RelD C.K _ R1 _ (.p (.lst ps)) from .lst upd_same (RpAll.mono g.sF _ _ rp)) (rep1.grow g) g.sF pre_refl
      · simp only [if_neg hl] at post1; exact post1.elim))
theorem ej_tup {x1} (h : Aj C ma es) : Ej C (eT ma) (.Tuple es x1 pos) := .mk fun sl S σ F R H hs hr Q post =>
  ED.of (pe_tup pa_d) (h sl S σ F R H hs hr _ (Post.bind post fun ds S1 vs F1 R1 H1 _ rx rep1 s1 r1 post1 => by
    cases hp : pures ds with
    | none => rw [hp] at post1; exact post1.elim
    | some ps =>
      rw [hp] at post1
      by_cases hl : ps.length ≤ sizeLine
      · simp only [if_pos hl] at post1
        have e := pures_eq hp
        subst e
        have rp := rx.to_p
        refine ⟨by rw [rp.length]; exact hl, fun l hn => ?_⟩
        have g := Grow.new (o := .tup vs) rep1.sub hn
        exact post1 _ _ R1 _ (show RelD C.K _ R1 _ (.p (.tup ps)) from .tup upd_same (RpAll.mono g.sF _ _ rp)) (rep1.grow g) g.sF pre_refl
      · simp only [if_neg hl] at post1; exact post1.elim))
theorem last_get {R : List Addr} {a : Addr} {n : Nat} (h : R.length = n) : (R ++ [a])[n]? = some a := by
  rw [← h, List.getElem?_append_right (Nat.le_refl _), Nat.sub_self]; rfl
theorem ej_lstL (h : Aj C ma es) : Ej C (eLL ma) (.List es pos) := .mk fun sl S σ F R H hs hr Q post =>
  ED.of (pe_lst pa_d) (h sl S σ F R H hs hr _ (Post.bind post fun ds S1 vs F1 R1 H1 _ rx rep1 s1 r1 post1 => by
    by_cases hl : ds.length ≤ sizeLine
    · simp only [if_pos hl] at post1
      refine ⟨by rw [rx.length]; exact hl, fun l hn => ?_⟩
      exact post1 _ _ (R1 ++ [l]) _ (show RelD C.K _ _ _ (.ref S1.length) from ⟨l, last_get rep1.len, rfl⟩) (rep1.push1 hn (.lst (rx.mono (Same.refl _) pre_app))) (Same.refl _) pre_app
    · simp only [if_neg hl] at post1; exact post1.elim))
end
end Z

namespace Z
open PySem PySem.Spec PyProof.Rows L2
section
variable {C : Kx} {a b c e tg iter : Expr} {es rest : List Expr} {pos pos' p : Pos} {x : Str} {m m1 m2 m3 : M} {t t1 t2 : MT} {ma : MA} {K : Fr} {s1 s2 : MS} {st : Stmt} {ss : List Stmt} {i : Nat}
/-! ### statements -/
def sNil : MS := fun sl S => .nx sl S
def sSeq (m1 m2 : MS) : MS := fun sl S => match m1 sl S with
  | .nx sl' S' => m2 sl' S'
  | r => r
theorem sj_nil : Sj C sNil [] := .mk fun sl S σ F R H hs hr D post => SD.of pss_nil (post σ F R H hs hr (Same.refl _) pre_refl)
theorem sj_cons (h1 : Sj1 C s1 st) (h2 : Sj C s2 ss) : Sj C (sSeq s1 s2) (st :: ss) := .mk fun sl S σ F R H hs hr D post => by
  refine SD.of (pss_cons ps_d pss_d) (h1 sl S σ F R H hs hr _ ?_)
  unfold sSeq at post
  cases hr1 : s1 sl S with
  | nx sl' S' =>
    rw [hr1] at post
    exact fun σ' F' R' H' h1 h2' h3 h4 => h2 sl' S' σ' F' R' H' h1 h2' D (PostS.mono post h3 h4)
  | rt d S' => rw [hr1] at post; exact post
  | bk d S' => rw [hr1] at post; exact post
  | ct d S' => rw [hr1] at post; exact post
  | exc d l S' => rw [hr1] at post; exact post
  | no => rw [hr1] at post; exact post.elim
theorem sj_one (h : Sj1 C s1 st) : Sj C (sSeq s1 sNil) [st] := sj_cons h sj_nil
def sRet (m : M) : MS := fun sl S => (m sl S).st sl fun d S1 => .rt d S1
theorem sj_ret (h : Ej C m e) : Sj1 C (sRet m) (.Return (some e) pos) := .mk fun sl S σ F R H hs hr D post =>
  SD1.of (ps_ret pe_d) (h sl S σ F R H hs hr _ (PostS.bind post hs fun d S1 v F1 R1 H1 _ rv rep1 s1 r1 hs1 post1 => post1 v F1 R1 H1 rv rep1 (Same.refl _) pre_refl))
def sRetN : MS := fun sl S => .rt (.p .non) S
theorem sj_retN : Sj1 C sRetN (.Return none pos) := .mk fun sl S σ F R H hs hr D post => SD1.of ps_retN (post .non F R H .non hr (Same.refl _) pre_refl)
def sExpr (m : M) : MS := fun sl S => (m sl S).st sl fun _ S1 => .nx sl S1
theorem sj_expr (h : Ej C m e) (hw : swapsWith e none pos.line C.X.env = pure false := by rfl) : Sj1 C (sExpr m) (.Expr e pos) := .mk fun sl S σ F R H hs hr D post =>
  SD1.of (ps_expr pe_d hw) (h sl S σ F R H hs hr _ (PostS.bind post hs fun d S1 v F1 R1 H1 _ rv rep1 s1 r1 hs1 post1 => post1 σ F1 R1 H1 hs1 rep1 (Same.refl _) pre_refl))
theorem sj_doc {z : Str} {j} : Sj1 C sNil (.Expr (.Constant (.str z) j pos) pos') := .mk fun sl S σ F R H hs hr D post => SD1.of ps_doc (post σ F R H hs hr (Same.refl _) pre_refl)
theorem sj_pass : Sj1 C sNil (.Pass pos) := .mk fun sl S σ F R H hs hr D post => SD1.of ps_pass (post σ F R H hs hr (Same.refl _) pre_refl)
def sBk : MS := fun sl S => .bk sl S
def sCt : MS := fun sl S => .ct sl S
theorem sj_break : Sj1 C sBk (.Break pos) := .mk fun sl S σ F R H hs hr D post => SD1.of ps_break (post σ F R H hs hr (Same.refl _) pre_refl)
theorem sj_continue : Sj1 C sCt (.Continue pos) := .mk fun sl S σ F R H hs hr D post => SD1.of ps_continue (post σ F R H hs hr (Same.refl _) pre_refl)
def sIf (t : MT) (s1 s2 : MS) : MS := fun sl S => (t sl S).st sl fun b S1 => if b = true then s1 sl S1 else s2 sl S1
theorem sj_if {A B : List Stmt} (h : Tj C t c) (h1 : Sj C s1 A) (h2 : Sj C s2 B) : Sj1 C (sIf t s1 s2) (.If c A B pos) := .mk fun sl S σ F R H hs hr D post =>
  SD1.of (ps_if pt_d pss_d pss_d) (h sl S σ F R H hs hr _ (PostS.bind post hs fun k S1 k' F1 R1 H1 _ rk rep1 s1 r1 hs1 post1 => by
    cases (show k' = k from rk)
    cases k with
    | true =>
      show SD C.X A D σ H1
      exact h1 sl S1 σ F1 R1 H1 hs1 rep1 D post1
    | false =>
      show SD C.X B D σ H1
      exact h2 sl S1 σ F1 R1 H1 hs1 rep1 D post1))
def sSet (i : Nat) (m : M) : MS := fun sl S => (m sl S).st sl fun d S1 => .nx (sl.set i (some d)) S1
abbrev FnLoc (C : Kx) (x : Str) : Prop := C.X.fn x = true ∨ C.X.env.scope.names.lookup x = some .local
theorem sj_set {pos' : Pos} (i : Nat) (hN : C.X.N.Nodup) (h : Ej C m e) (hi : C.X.N[i]? = some x := by rfl) (hx : Loc C.X.env.scope x := by first | exact Or.inl rfl | exact Or.inr rfl) (hw : swapsWith e (some (.Name x pos')) pos.line C.X.env = pure false := by rfl)
    (hf : C.X.fn x = true ∨ C.X.env.scope.names.lookup x = some .local := by first | exact .inl rfl | exact .inr rfl) : Sj1 C (sSet i m) (.Assign [.Name x pos'] e pos) := .mk fun sl S σ F R H hs hr D post =>
  SD1.of (ps_set hN hi hx pe_d hw hf) (h sl S σ F R H hs hr _ (PostS.bind post hs fun d S1 v F1 R1 H1 _ rv rep1 s1 r1 hs1 post1 => post1 _ F1 R1 H1 (hs1.set rv) rep1 (Same.refl _) pre_refl))

/-! ### targets -/
abbrev Eff := P → Slots → Option Slots
def OffOnly (js : List Nat) (σ σ' : L2.St) : Prop := σ'.length = σ.length ∧ ∀ i : Nat, i ∉ js → σ'[i]? = σ[i]?
theorem OffOnly.refl {js : List Nat} {σ : L2.St} : OffOnly js σ σ := ⟨rfl, fun _ _ => rfl⟩
theorem OffOnly.trans {js : List Nat} {σ σ1 σ2 : L2.St} (h : OffOnly js σ σ1) (h' : OffOnly js σ1 σ2) : OffOnly js σ σ2 := ⟨h'.1.trans h.1, fun i hi => (h'.2 i hi).trans (h.2 i hi)⟩
theorem OffOnly.le {js ks : List Nat} {σ σ1 : L2.St} (h : OffOnly js σ σ1) (hk : ∀ j ∈ js, j ∈ ks) : OffOnly ks σ σ1 := ⟨h.1, fun i hi => h.2 i fun z => hi (hk i z)⟩
def GOk (K : Fr) (g : TG) (eff : Eff) (js : List Nat) : Prop := ∀ q sl sl' σ F R H v (Q : L2.St → Hp → Prop), eff q sl = some sl' → Rp K F v q → SlR K F R σ sl → Same F H → (∀ σ', SlR K F R σ' sl' → OffOnly js σ σ' → Q σ' H) → g v σ H Q
def effN (j : Nat) : Eff := fun q sl => some (sl.set j (some (.p q)))
theorem go_name {j : Nat} : GOk K (gName j) (effN j) [j] := fun q sl sl' σ F R H v Q e hv hs s k => by
  cases e
  exact k _ (hs.set (show RelD K F R v (.p q) from hv)) ⟨List.length_set, fun i hi => List.getElem?_set_ne fun z => hi (by simp [z])⟩
abbrev Effs := List P → Slots → Option Slots
def effsN : Effs
  | [], sl => some sl
  | _, _ => none
def effsC (e1 : Eff) (e2 : Effs) : Effs
  | q :: qs, sl => match e1 q sl with
    | some sl1 => e2 qs sl1
    | none => none
  | [], _ => none
def effT (n : Nat) (es : Effs) : Eff := fun q sl => match q with
  | .tup ps => if ps.length = n then es ps sl else none
  | _ => none
def GsOk (K : Fr) (g : TGs) (eff : Effs) (js : List Nat) : Prop := ∀ qs sl sl' σ F R H vs (Q : L2.St → Hp → Prop), eff qs sl = some sl' → RpAll K F vs qs → SlR K F R σ sl → Same F H → (∀ σ', SlR K F R σ' sl' → OffOnly js σ σ' → Q σ' H) → g vs σ H Q
theorem gso_nil : GsOk K gNil effsN [] := fun qs sl sl' σ F R H vs Q e hv hs s k => by
  cases qs with
  | nil => cases e; cases hv; exact ⟨rfl, k σ hs OffOnly.refl⟩
  | cons q qs => cases e
theorem gso_cons {g : TG} {gs : TGs} {e1 : Eff} {e2 : Effs} {js ks : List Nat} (h1 : GOk K g e1 js) (h2 : GsOk K gs e2 ks) : GsOk K (gCons g gs) (effsC e1 e2) (js ++ ks) := fun qs sl sl' σ F R H vs Q e hv hs s k => by
  cases hv with
  | nil => cases e
  | @cons v vs q qs hv1 hv2 =>
    cases h : e1 q sl with
    | none => simp only [effsC, h] at e; cases e
    | some sl1 =>
      simp only [effsC, h] at e
      exact ⟨v, vs, rfl, h1 q sl sl1 σ F R H v _ h hv1 hs s fun σ1 hs1 o1 => h2 qs sl1 sl' σ1 F R H vs Q e hv2 hs1 s fun σ2 hs2 o2 => k σ2 hs2 ((o1.le fun j hj => List.mem_append_left _ hj).trans (o2.le fun j hj => List.mem_append_right _ hj))⟩
theorem go_tup {gs : TGs} {es : Effs} {js : List Nat} {n : Nat} (h : GsOk K gs es js) : GOk K (gTup K.K n gs) (effT n es) js := fun q sl sl' σ F R H v Q e hv hs s k => by
  cases q with
  | tup ps =>
    have e : (if ps.length = n then es ps sl else none) = some sl' := e
    split at e
    · rename_i hn
      obtain ⟨a, vs, rfl, h1, h2⟩ := (Vw.p (H := H) hv).tupE
      exact ⟨a, vs, rfl, same_sqT s h1, by rw [h2.length]; exact hn, h ps sl sl' σ F R H vs Q e h2 hs s k⟩
    · cases e
  | _ => cases e
/-- a, b = e where e stands still -/
def sUnp (eff : Eff) (m : M) : MS := fun sl S => (m sl S).st sl fun d S1 => match d with
  | .p q => match eff q sl with
    | some sl' => .nx sl' S1
    | none => .no
  | .ref _ => .no
theorem sj_unp {g : TG} {eff : Eff} {js : List Nat} (hg : PG C.X tg g) (ho : GOk C.K g eff js) (h : Ej C m e) (hs' : swapsWithSole [tg] e pos.line C.X.env = pure false := by rfl) (hw : swappedStores [tg] e C.X.env = pure none := by rfl)
    (h1 : (assignEach [tg] C.X.env).map (·.2) = [assign tg C.X.env] := by rfl) : Sj1 C (sUnp eff m) (.Assign [tg] e pos) := .mk fun sl S σ F R H hs hr D post =>
  SD1.of (ps_asg pe_d hg hs' hw h1) (h sl S σ F R H hs hr _ (PostS.bind post hs fun d S1 v F1 R1 H1 _ rv rep1 s1 r1 hs1 post1 => by
    cases d with
    | ref n => exact post1.elim
    | p q =>
      cases he : eff q sl with
      | none => simp only [he] at post1; exact post1.elim
      | some sl' =>
        simp only [he] at post1
        exact ho q sl sl' σ F1 R1 H1 v _ he rv hs1 rep1.sub fun σ' hs' _ => post1 σ' F1 R1 H1 hs' rep1 (Same.refl _) pre_refl))

/-! ### what is walked -/
structure ItOk (K : Fr) (J : It) (F : Hp) (its : List P) : Prop where
  go : ∀ (i : Nat) d F2 H2, its[i]? = some d → Same F F2 → Same F2 H2 → J.go i H2 ∧ ∀ v H', J.yld i H2 v H' → ∃ F', Grow F2 H2 F' H' ∧ Rp K F' v d
  stop : ∀ F2 H2, Same F F2 → Same F2 H2 → J.stop its.length H2
abbrev MI := Slots → Store → Rs (List P)
abbrev rI (K : Fr) : Hp → List Addr → It → List P → Prop := fun F' _ J its => ItOk K J F' its
def SrcOk (C : Kx) (wi : TI) (ms : MI) : Prop := ∀ sl S σ F R H, SlR C.K F R σ sl → Rep C.K C.G F R S H → ∀ Q : It → Hp → Prop, Post C σ F R (rI C.K) Q (ms sl S) → wi σ H Q
theorem it_list {F : Hp} {a : Addr} {xs : List V} {ds : List P} (h1 : F a = some (.lst xs)) (h2 : RpAll K F xs ds) : ItOk K (Itl K.K a) F ds := by
  refine ⟨fun i d F2 H2 e s s2 => ?_, fun F2 H2 s s2 => ?_⟩
  · obtain ⟨v, ev, rv⟩ := h2.get' e
    have q : SqL K.K H2 a xs := .inl (.inl (s2 _ _ (s _ _ h1)))
    refine ⟨⟨xs, v, q, ev⟩, fun x H' y => ?_⟩
    obtain ⟨rfl, y⟩ := y
    have e1 := y xs q
    rw [ev] at e1
    cases e1
    exact ⟨F2, Grow.refl s2, Rp.mono s _ _ rv⟩
  · exact ⟨xs, .inl (.inl (s2 _ _ (s _ _ h1))), by rw [h2.length]; exact Nat.le_refl _⟩
theorem it_listW {F : Hp} {a : Addr} {xs : List V} {ds : List P} (h1 : SqL K.K F a xs) (h2 : RpAll K F xs ds) : ItOk K (Itl K.K a) F ds := by
  refine ⟨fun i d F2 H2 e s s2 => ?_, fun F2 H2 s s2 => ?_⟩
  · obtain ⟨v, ev, rv⟩ := h2.get' e
    have q : SqL K.K H2 a xs := same_sqL s2 (same_sqL s h1)
    refine ⟨⟨xs, v, q, ev⟩, fun x H' y => ?_⟩
    obtain ⟨rfl, y⟩ := y
    have e1 := y xs q
    rw [ev] at e1
    cases e1
    exact ⟨F2, Grow.refl s2, Rp.mono s _ _ rv⟩
  · exact ⟨xs, same_sqL s2 (same_sqL s h1), by rw [h2.length]; exact Nat.le_refl _⟩
theorem it_tup {F : Hp} {a : Addr} {xs : List V} {ds : List P} (h1 : SqT K.K F a xs) (h2 : RpAll K F xs ds) : ItOk K (Itt K.K a) F ds := by
  refine ⟨fun i d F2 H2 e s s2 => ?_, fun F2 H2 s s2 => ?_⟩
  · obtain ⟨v, ev, rv⟩ := h2.get' e
    have q : SqT K.K H2 a xs := same_sqT s2 (same_sqT s h1)
    refine ⟨⟨xs, v, q, ev⟩, fun x H' y => ?_⟩
    obtain ⟨rfl, y⟩ := y
    have e1 := y xs q
    rw [ev] at e1
    cases e1
    exact ⟨F2, Grow.refl s2, Rp.mono s _ _ rv⟩
  · exact ⟨xs, same_sqT s2 (same_sqT s h1), by rw [h2.length]; exact Nat.le_refl _⟩
abbrev chars (z : Str) : List P := z.cps.toList.map fun c => .str ⟨#[c]⟩
theorem it_str {F : Hp} {z : Str} : ItOk K (Its z) F (chars z) := by
  refine ⟨fun i d F2 H2 e s s2 => ?_, fun F2 H2 s s2 => ?_⟩
  · rw [List.getElem?_map] at e
    cases hc : z.cps.toList[i]? with
    | none => rw [hc] at e; cases e
    | some c =>
      rw [hc] at e
      cases e
      have hlt := (List.getElem?_eq_some_iff.mp hc).1
      rw [Array.length_toList] at hlt
      refine ⟨hlt, fun x H' y => ?_⟩
      obtain ⟨rfl, c', e1, rfl⟩ := y
      rw [← Array.getElem?_toList, hc] at e1
      cases e1
      exact ⟨F2, Grow.refl s2, .str _⟩
  · show z.cps.size ≤ _
    rw [List.length_map, Array.length_toList]
    exact Nat.le_refl _
abbrev rng (lo : Int) (n : Nat) : List P := (List.range n).map fun j : Nat => .int (lo + (j : Int))
theorem it_range {F : Hp} {lo : Int} {n : Nat} : ItOk K (Itr lo n) F (rng lo n) := by
  refine ⟨fun i d F2 H2 e s s2 => ?_, fun F2 H2 s s2 => ?_⟩
  · rw [List.getElem?_map] at e
    by_cases hi : i < n
    · rw [List.getElem?_range hi] at e
      cases e
      refine ⟨hi, fun x H' y => ?_⟩
      obtain ⟨rfl, rfl⟩ := y
      exact ⟨F2, Grow.refl s2, .int _⟩
    · rw [List.getElem?_eq_none (by rw [List.length_range]; omega)] at e
      cases e
  · show n ≤ _
    rw [List.length_map, List.length_range]
    exact Nat.le_refl _
def iSeqT (K : PySem.W.Frag) (tl : TE) : TI := fun σ H R => tl σ H fun x H1 => (∃ a, x = .ref a ∧ (∃ xs, SqL K H1 a xs) ∧ R (Itl K a) H1) ∨ (∃ a, x = .ref a ∧ (∃ xs, SqT K H1 a xs) ∧ R (Itt K a) H1) ∨ ∃ z, x = .str z ∧ R (Its z) H1
theorem pi_seq {X : Cx} {l : Expr} {tl : TE} (hl : PE X l tl) : PI X tg l (iSeqT X.K tl) := by
  refine ⟨fun pins s σ H R I h => ?_⟩
  refine thn (hl.run pins s σ H _ I h) fun v s1 ⟨x, H1, I1, r1, q1⟩ => ?_
  rcases q1 with ⟨a, e, ⟨xs, hq⟩, q⟩ | ⟨a, e, ⟨xs, hq⟩, q⟩ | ⟨x, ex, q⟩
  · subst e
    cases r1
    obtain ⟨its, rv, p, hz⟩ := I1.list hq
    refine wpAny_pyIter_list p.isList ?_
    refine ⟨s1.heap.objs.size, [s1.heap.objs.size], _, _, H1, rfl, I1.kept (t' := s1.toks) fun b o e => Heap.get?_push_of_some _ e, turn_list a _, ⟨_, Heap.get?_push_size _ rfl, rfl, rfl⟩, fun b hb => ?_, q⟩
    have e : b = s1.heap.objs.size := by simpa using hb
    subst e
    exact I1.fpOk (Nat.le_refl _) (I1.hok.fresh (Nat.le_refl _))
  · subst e
    cases r1
    obtain ⟨its, rv, p, hz⟩ := I1.tuple hq
    refine wpAny_pyIter_tuple (show s1.heap.IsTuple a its.toArray from p) ?_
    refine ⟨s1.heap.objs.size, [s1.heap.objs.size], _, _, H1, rfl, I1.kept (t' := s1.toks) fun b o e => Heap.get?_push_of_some _ e, turn_tuple a _, ⟨_, Heap.get?_push_size _ rfl, rfl, rfl⟩, fun b hb => ?_, q⟩
    have e : b = s1.heap.objs.size := by simpa using hb
    subst e
    exact I1.fpOk (Nat.le_refl _) (I1.hok.fresh (Nat.le_refl _))
  · subst ex
    obtain ⟨t, rfl⟩ := r1
    cases ha : x.cps.all (· < 128)
    · exact wpAny_pyIter_wide ha (pi_one (tk := s1.toks) I1 _ (turn_str _ x t "str_iterator" (.inr rfl)) ⟨_, Heap.get?_push_size _ rfl, rfl, rfl⟩ q)
    · exact wpAny_pyIter_ascii ha (pi_one (tk := s1.toks) I1 _ (turn_str _ x t "str_ascii_iterator" (.inl rfl)) ⟨_, Heap.get?_push_size _ rfl, rfl, rfl⟩ q)
def seqOf : P → Option (List P)
  | .lst ps => some ps
  | .tup ps => some ps
  | .str z => some (chars z)
  | .scr ns => some (ns.map .int)
  | _ => none
def iSeq (m : M) : MI := fun sl S => (m sl S).bind fun d S1 => match d with
  | .p q => match seqOf q with
    | some its => .ok its S1
    | none => .no
  | .ref _ => .no
theorem src_seq (h : Ej C m a) : SrcOk C (iSeqT C.X.K (ED C.X a)) (iSeq m) := fun sl S σ F R H hs hr Q post =>
  h sl S σ F R H hs hr _ (Post.bind post fun d S1 v F1 R1 H1 _ rv rep1 s1 r1 post1 => by
    cases d with
    | ref n => exact post1.elim
    | p q =>
      cases hv : rv with
      | lst h1 h2 => exact .inl ⟨_, rfl, ⟨_, .inl (.inl (rep1.sub _ _ h1))⟩, post1.okv (it_list h1 h2) rep1⟩
      | tup h1 h2 => exact .inr (.inl ⟨_, rfl, ⟨_, .inl (.inl (rep1.sub _ _ h1))⟩, post1.okv (it_tup (.inl (.inl h1)) h2) rep1⟩)
      | tupW h1 h2 _ => exact .inr (.inl ⟨_, rfl, ⟨_, same_sqT rep1.sub h1⟩, post1.okv (it_tup h1 h2) rep1⟩)
      | str z => exact .inr (.inr ⟨z, rfl, post1.okv it_str rep1⟩)
      | scr h1 => exact .inl ⟨_, rfl, ⟨_, same_sqL rep1.sub h1⟩, post1.okv (it_listW h1 (rp_ints _)) rep1⟩
      | _ => exact post1.elim)
def iR1 (m : M) : MI := fun sl S => (m sl S).bind fun d S1 => (asI S1 d).bind fun n S1 => if -(2 ^ 62) ≤ n ∧ n < 2 ^ 62 then .ok (rng 0 n.toNat) S1 else .no
def iR2 (m1 m2 : M) : MI := fun sl S => (m1 sl S).bind fun d S1 => (m2 sl S1).bind fun e S2 => (asI S2 d).bind fun i S2 => (asI S2 e).bind fun j S2 => if (-(2 ^ 62) ≤ i ∧ i < 2 ^ 62) ∧ (-(2 ^ 62) ≤ j ∧ j < 2 ^ 62) then .ok (rng i (j - i).toNat) S2 else .no
theorem asI_postG {α β : Type} {σ : L2.St} {F H : Hp} {R : List Addr} {S : Store} {d : D} {v : V} {rel : Hp → List Addr → β → α → Prop} {Q : β → Hp → Prop} {f : Int → Store → Rs α} (rv : RelD C.K F R v d) (rep : Rep C.K C.G F R S H) (post : Post C σ F R rel Q ((asI S d).bind f)) : ∃ i, v = .int i ∧ Post C σ F R rel Q (f i S) := by
  unfold asI at post
  cases hv : view S d with
  | none => rw [hv] at post; exact post.elim
  | some q =>
    rw [hv] at post
    cases q with
    | int n => exact ⟨n, (view_vw rv rep hv).int, post⟩
    | _ => exact post.elim
theorem src_r1 (h : Ej C m a) (he : starEach [a] C.X.env = (false, eval a C.X.env) :: starEach [] C.X.env := by exact se_of rfl) : SrcOk C (iRng1 (AD C.X [a])) (iR1 m) := fun sl S σ F R H hs hr Q post =>
  AD.of (pa_cons pe_d pa_nil he) (h sl S σ F R H hs hr _ (Post.bind post fun d S1 v F1 R1 H1 _ rv rep1 s1 r1 post1 => by
    obtain ⟨n, rfl, post1⟩ := asI_postG rv rep1 post1
    by_cases hn : -(2 ^ 62) ≤ n ∧ n < 2 ^ 62
    · rw [if_pos hn] at post1
      exact ⟨n, rfl, hn.1, hn.2, post1.okv it_range rep1⟩
    · rw [if_neg hn] at post1; exact post1.elim))
theorem src_r2 (h : Ej C m1 a) (h2 : Ej C m2 b) (he : starEach [a, b] C.X.env = (false, eval a C.X.env) :: starEach [b] C.X.env := by exact se_of rfl) (he2 : starEach [b] C.X.env = (false, eval b C.X.env) :: starEach [] C.X.env := by exact se_of rfl) : SrcOk C (iRng2 (AD C.X [a, b])) (iR2 m1 m2) := fun sl S σ F R H hs hr Q post =>
  AD.of (pa_cons pe_d (pa_cons pe_d pa_nil he2) he) (h sl S σ F R H hs hr _ (Post.bind post fun d S1 v F1 R1 H1 _ rv rep1 s1 r1 post1 => h2 sl S1 σ F1 R1 H1 (hs.mono s1 r1) rep1 _ (Post.bind post1 fun d2 S2 v2 F2 R2 H2 _ rv2 rep2 s2 r2 post2 => by
    obtain ⟨i, rfl, post2⟩ := asI_postG (rv.mono s2 r2) rep2 post2
    obtain ⟨j, rfl, post2⟩ := asI_postG rv2 rep2 post2
    by_cases hn : (-(2 ^ 62) ≤ i ∧ i < 2 ^ 62) ∧ (-(2 ^ 62) ≤ j ∧ j < 2 ^ 62)
    · rw [if_pos hn] at post2
      exact ⟨i, j, rfl, ⟨hn.1.1, hn.1.2, hn.2.1, hn.2.2⟩, post2.okv it_range rep2⟩
    · rw [if_neg hn] at post2; exact post2.elim)))

/-! ### for, while -/
def loop (eff : Eff) (mb : MS) : List P → MS
  | [], sl, S => .nx sl S
  | q :: qs, sl, S => match eff q sl with
    | none => .no
    | some sl1 => match mb sl1 S with
      | .nx sl2 S2 => loop eff mb qs sl2 S2
      | .ct sl2 S2 => loop eff mb qs sl2 S2
      | .bk sl2 S2 => .nx sl2 S2
      | .rt d S2 => .rt d S2
      | .exc x sl2 S2 => .exc x sl2 S2
      | .no => .no
def sFor (ms : MI) (eff : Eff) (mb : MS) : MS := fun sl S => (ms sl S).st sl fun its S1 => loop eff mb its sl S1
theorem sj_for {body : List Stmt} {wi : TI} {ms : MI} {g : TG} {eff : Eff} {js : List Nat} {mb : MS} (hp : PassesOwn (model C.X.prog C.X.w) C.X.A C.X.env C.X.xe) (hc : C.X.calm = true) (hi : PI C.X tg iter wi) (hsrc : SrcOk C wi ms) (hg : PG C.X tg g) (ho : GOk C.K g eff js) (hb : Sj C mb body)
    (hf : ∀ x, foldedSetIterable iter C.X.env x = pure x := by intro _; rfl) : Sj1 C (sFor ms eff mb) (.For tg iter body [] pos) := .mk fun sl S σ F R H hs hr D post => by
  refine SD1.of (ps_for hp hc hi hg pss_d hf) (hsrc sl S σ F R H hs hr _ (PostS.bind post hs fun its S1 J F1 R1 H1 _ ok rep1 s1 r1 hs1 post1 => ?_))
  refine ⟨fun i k σ H => k = its.length - i ∧ i ≤ its.length ∧ ∃ F2 R2 sl2 S2, Same F1 F2 ∧ R1 <+: R2 ∧ SlR C.K F2 R2 σ sl2 ∧ Rep C.K C.G F2 R2 S2 H ∧ PostS C F2 R2 D (loop eff mb (its.drop i) sl2 S2), ⟨its.length, rfl, Nat.zero_le _, F1, R1, sl, S1, Same.refl _, pre_refl, hs1, rep1, post1⟩, ?_⟩
  rintro i k σ2 H2 ⟨rfl, hle, F2, R2, sl2, S2, s2, r2, hs2, rep2, post2⟩
  by_cases hlt : i < its.length
  · have hit : its[i]? = some its[i] := List.getElem?_eq_getElem hlt
    have hd : its.drop i = its[i] :: its.drop (i + 1) := List.drop_eq_getElem_cons hlt
    rw [hd] at post2
    obtain ⟨g1, g2⟩ := ok.go i _ F2 H2 hit s2 rep2.sub
    refine .inr ⟨g1, fun σ' H' => ∃ F3 R3 sl3 S3, Same F1 F3 ∧ R1 <+: R3 ∧ SlR C.K F3 R3 σ' sl3 ∧ Rep C.K C.G F3 R3 S3 H' ∧ PostS C F3 R3 D (loop eff mb (its.drop (i + 1)) sl3 S3), fun σ' H' ⟨F3, R3, sl3, S3, s3, r3, hs3, rep3, post3⟩ => ⟨its.length - (i + 1), by omega, rfl, hlt, F3, R3, sl3, S3, s3, r3, hs3, rep3, post3⟩, fun v H' hy => ?_⟩
    obtain ⟨F3, gr3, rv⟩ := g2 v H' hy
    simp only [loop] at post2
    cases he : eff its[i] sl2 with
    | none => simp only [he] at post2; exact post2.elim
    | some sl3 =>
      simp only [he] at post2
      refine ho _ sl2 sl3 σ2 F3 R2 H' v _ he rv (hs2.mono gr3.sF pre_refl) gr3.sub fun σ3 hs3 _ => ?_
      refine hb sl3 S2 σ3 F3 R2 H' hs3 (rep2.grow gr3) _ ?_
      have e1 : Same F1 F3 := s2.trans gr3.sF
      cases hm : mb sl3 S2 with
      | nx sl4 S4 =>
        simp only [hm] at post2
        exact fun σ' F' R' H'' h1 h2 h3 h4 => ⟨F', R', sl4, S4, e1.trans h3, pre_trans r2 h4, h1, h2, PostS.mono post2 (gr3.sF.trans h3) h4⟩
      | ct sl4 S4 =>
        simp only [hm] at post2
        exact fun σ' F' R' H'' h1 h2 h3 h4 => ⟨F', R', sl4, S4, e1.trans h3, pre_trans r2 h4, h1, h2, PostS.mono post2 (gr3.sF.trans h3) h4⟩
      | bk sl4 S4 =>
        simp only [hm] at post2
        exact PostS.mono post2 gr3.sF pre_refl
      | rt d S4 => simp only [hm] at post2; exact PostS.mono post2 gr3.sF pre_refl
      | exc x sl4 S4 => simp only [hm] at post2; exact PostS.mono post2 gr3.sF pre_refl
      | no => simp only [hm] at post2; exact post2.elim
  · have e : i = its.length := by omega
    subst e
    rw [List.drop_length] at post2
    exact .inl ⟨ok.stop F2 H2 s2 rep2.sub, post2 σ2 F2 R2 H2 hs2 rep2 (Same.refl _) pre_refl⟩
def wloop (t : MT) (mb : MS) : Nat → MS
  | 0, _, _ => .no
  | n + 1, sl, S => (t sl S).st sl fun b S1 => if b = true then match mb sl S1 with
      | .nx sl2 S2 => wloop t mb n sl2 S2
      | .ct sl2 S2 => wloop t mb n sl2 S2
      | .bk sl2 S2 => .nx sl2 S2
      | .rt d S2 => .rt d S2
      | .exc x sl2 S2 => .exc x sl2 S2
      | .no => .no
    else .nx sl S1
theorem sj_while {body : List Stmt} {mb : MS} (n : Nat) (hp : PassesOwn (model C.X.prog C.X.w) C.X.A C.X.env C.X.xe) (ht : Tj C t c) (hb : Sj C mb body) : Sj1 C (wloop t mb n) (.While c body [] pos) := .mk fun sl S σ F R H hs hr D post => by
  refine SD1.of (ps_while hp pt_d pss_d) ?_
  refine ⟨fun k σ H => ∃ F2 R2 sl2 S2, Same F F2 ∧ R <+: R2 ∧ SlR C.K F2 R2 σ sl2 ∧ Rep C.K C.G F2 R2 S2 H ∧ PostS C F2 R2 D (wloop t mb k sl2 S2), ⟨n, F, R, sl, S, Same.refl _, pre_refl, hs, hr, post⟩, ?_⟩
  rintro k σ2 H2 ⟨F2, R2, sl2, S2, s2, r2, hs2, rep2, post2⟩
  cases k with
  | zero => exact post2.elim
  | succ k =>
    refine ht sl2 S2 σ2 F2 R2 H2 hs2 rep2 _ (PostS.bind post2 hs2 fun b S3 b' F3 R3 H3 _ rb rep3 s3 r3 hs3 post3 => ?_)
    cases (show b' = b from rb)
    cases b with
    | false =>
      show D.nx σ2 H3
      exact (show PostS C F3 R3 D (.nx sl2 S3) from post3) σ2 F3 R3 H3 hs3 rep3 (Same.refl _) pre_refl
    | true =>
      show ∃ N, _
      refine ⟨fun σ' H' => ∃ F4 R4 sl4 S4, Same F F4 ∧ R <+: R4 ∧ SlR C.K F4 R4 σ' sl4 ∧ Rep C.K C.G F4 R4 S4 H' ∧ PostS C F4 R4 D (wloop t mb k sl4 S4), fun σ' H' h => ⟨k, Nat.lt_succ_self _, h⟩, ?_⟩
      refine hb sl2 S3 σ2 F3 R3 H3 hs3 rep3 _ ?_
      have post3 : PostS C F3 R3 D (match mb sl2 S3 with
        | .nx sl2 S2 => wloop t mb k sl2 S2
        | .ct sl2 S2 => wloop t mb k sl2 S2
        | .bk sl2 S2 => .nx sl2 S2
        | .rt d S2 => .rt d S2
        | .exc x sl2 S2 => .exc x sl2 S2
        | .no => .no) := post3
      have e1 : Same F F3 := s2.trans s3
      have e2 : R <+: R3 := pre_trans r2 r3
      cases hm : mb sl2 S3 with
      | nx sl4 S4 =>
        simp only [hm] at post3
        exact fun σ' F' R' H'' h1 h2 h3 h4 => ⟨F', R', sl4, S4, e1.trans h3, pre_trans e2 h4, h1, h2, PostS.mono post3 h3 h4⟩
      | ct sl4 S4 =>
        simp only [hm] at post3
        exact fun σ' F' R' H'' h1 h2 h3 h4 => ⟨F', R', sl4, S4, e1.trans h3, pre_trans e2 h4, h1, h2, PostS.mono post3 h3 h4⟩
      | bk sl4 S4 => simp only [hm] at post3; exact post3
      | rt d S4 => simp only [hm] at post3; exact post3
      | exc x sl4 S4 => simp only [hm] at post3; exact post3
      | no => simp only [hm] at post3; exact post3.elim
end
end Z

namespace Z
open PySem PySem.Spec PyProof.Rows L2
/-! ### comprehensions -/
theorem wipe_get {σ : L2.St} {i : Nat} : ∀ {vs : List Nat}, (wipe σ vs)[i]? = if i ∈ vs then σ[i]?.map fun _ => none else σ[i]?
  | [] => by simp [wipe]
  | v :: vs => by
    have ih := wipe_get (σ := σ) (i := i) (vs := vs)
    show ((wipe σ vs).set v none)[i]? = _
    by_cases h : i = v
    · subst h
      rw [if_pos (by simp)]
      by_cases hl : i < σ.length
      · rw [List.getElem?_set_self (by rw [wipe_length]; exact hl), List.getElem?_eq_getElem hl]; rfl
      · rw [List.getElem?_eq_none (by rw [List.length_set, wipe_length]; omega), List.getElem?_eq_none (by omega)]; rfl
    · rw [List.getElem?_set_ne (Ne.symm h), ih]
      simp [h]
theorem map_none_eq {α β : Type} {l l' : List α} (h : l'.length = l.length) (i : Nat) : (l'[i]?.map fun _ => (none : Option β)) = l[i]?.map fun _ => none := by
  by_cases hl : i < l.length
  · rw [List.getElem?_eq_getElem hl, List.getElem?_eq_getElem (show i < l'.length by omega)]; rfl
  · rw [List.getElem?_eq_none (show l.length ≤ i by omega), List.getElem?_eq_none (show l'.length ≤ i by omega)]
theorem OffOnly.wipe {js vs : List Nat} {σ σ' : L2.St} (h : OffOnly js σ σ') (hj : ∀ j ∈ js, j ∈ vs) : L2.wipe σ' vs = L2.wipe σ vs := by
  refine List.ext_getElem? fun i => ?_
  rw [wipe_get, wipe_get]
  by_cases hi : i ∈ vs
  · rw [if_pos hi, if_pos hi]
    exact map_none_eq h.1 i
  · rw [if_neg hi, if_neg hi, h.2 i fun z => hi (hj i z)]
theorem wipe_wipe {vs : List Nat} {σ : L2.St} : L2.wipe (L2.wipe σ vs) vs = L2.wipe σ vs := by
  refine List.ext_getElem? fun i => ?_
  rw [wipe_get]
  by_cases hi : i ∈ vs
  · rw [if_pos hi, wipe_get, if_pos hi]
    cases σ[i]? <;> rfl
  · rw [if_neg hi, wipe_get, if_neg hi]
def wipeS (sl : Slots) : List Nat → Slots
  | [] => sl
  | v :: vs => (wipeS sl vs).set v none
theorem SlR.wipe {K : Fr} {F : Hp} {R : List Addr} {σ : L2.St} {sl : Slots} (h : SlR K F R σ sl) : ∀ vs : List Nat, SlR K F R (L2.wipe σ vs) (wipeS sl vs)
  | [] => h
  | v :: vs => (h.wipe vs).setN
abbrev BlkX (X : Cx) (scope : Scope) : Cx → Prop := fun B => ∃ (s : Shared) (H : Hp) (Cc : Addr) (cl : List (Str × Addr)) (fp : List Addr), B = X.blk s H scope (compEnvC scope cl Cc X.env) fp
def EB (X : Cx) (scope : Scope) (e : Expr) : TE := fun σ H Q => ∀ B, BlkX X scope B → ED B e σ H Q
def TB (X : Cx) (scope : Scope) (e : Expr) : TT := fun σ H Q => ∀ B, BlkX X scope B → TD B e σ H Q
theorem blkX_mk {X : Cx} {scope : Scope} (s : Shared) (H : Hp) (Cc : Addr) (cl : List (Str × Addr)) (fp : List Addr) : BlkX X scope (X.blk s H scope (compEnvC scope cl Cc X.env) fp) := ⟨s, H, Cc, cl, fp, rfl⟩
theorem pe_b {X : Cx} {scope : Scope} {e : Expr} (s : Shared) (H : Hp) (Cc : Addr) (cl : List (Str × Addr)) (fp : List Addr) : PE (X.blk s H scope (compEnvC scope cl Cc X.env) fp) e (EB X scope e) := ⟨fun pins s' σ H' Q I h => h _ (blkX_mk s H Cc cl fp) pins s' I⟩
theorem pt_b {X : Cx} {scope : Scope} {e : Expr} (s : Shared) (H : Hp) (Cc : Addr) (cl : List (Str × Addr)) (fp : List Addr) : PT (X.blk s H scope (compEnvC scope cl Cc X.env) fp) e (TB X scope e) := ⟨fun pins s' σ H' Q I h => h _ (blkX_mk s H Cc cl fp) pins s' I⟩
abbrev frX (X : Cx) : Fr := ⟨X.K, X.prog, X.w⟩
theorem blk_K {X B : Cx} {scope : Scope} (h : BlkX X scope B) : frX B = frX X := by obtain ⟨_, _, _, _, _, rfl⟩ := h; rfl
def lcL (eff : Eff) (t : MT) (elt : M) (own : List Nat) (sl : Slots) : List P → List P → Store → Rs (List P)
  | [], acc, S => .ok acc S
  | q :: qs, acc, S => match eff q (wipeS sl own) with
    | none => .no
    | some sl1 => match t sl1 S with
      | .ok true S1 => match elt sl1 S1 with
        | .ok (.p z) S2 => if acc.length < sizeLine then lcL eff t elt own sl qs (acc ++ [z]) S2 else .no
        | _ => .no
      | .ok false S1 => lcL eff t elt own sl qs acc S1
      | _ => .no
def tYes : MT := fun _ S => .ok true S
section
variable {C : Kx} {a b c e tg iter elt : Expr} {es rest : List Expr} {pos pos' p : Pos} {x : Str} {m me : M} {t : MT} {ms : MI} {K : Fr} {g : TG} {eff : Eff} {js vs : List Nat} {wi : TI} {scope : Scope} {own : List (Str × Nat)}
/-- a list that is being made is guarded meanwhile -/
theorem Rep.guard {G F H : Hp} {R : List Addr} {S : Store} {l : Addr} {o : HO} (h : Rep K G F R S H) (n : H l = none) : Rep K (upd G l o) F R S (upd H l o) := by
  have g := h.grow (Grow.own (o := o) h.sub n)
  obtain ⟨pc0, h0⟩ := h
  obtain ⟨pc, h⟩ := g
  have hp : ∀ m, pc0 m l = none := fun m => h0.free n m
  have h1 := (Grow.own (o := o) h0.sub n)
  refine ⟨pc0, h1.sub, h0.len, h0.ok, fun m a u e => ?_, h0.sep, h0.emp, fun a u e => ?_⟩
  · obtain ⟨q1, q2⟩ := h0.out m a u e
    exact ⟨q1, h1.sH _ _ q2⟩
  · by_cases ha : a = l
    · subst ha
      rw [upd_same] at e
      exact ⟨by rw [upd_same]; exact e, h0.sub.free n, hp⟩
    · rw [upd_ne ha] at e
      obtain ⟨q1, q2, q3⟩ := h0.grd a u e
      exact ⟨h1.sH _ _ q1, q2, q3⟩
/-- .. grows -/
theorem Rep.regrow {G F H : Hp} {R : List Addr} {S : Store} {l : Addr} {o o' : HO} (h : Rep K (upd G l o) F R S H) : Rep K (upd G l o') F R S (upd H l o') := by
  obtain ⟨pc, h⟩ := h
  obtain ⟨q1, q2, q3⟩ := h.grd l o upd_same
  refine ⟨pc, fun a u e => ?_, h.len, h.ok, fun m a u e => ?_, h.sep, h.emp, fun a u e => ?_⟩
  · rw [upd_ne (ne_of_none e q2)]; exact h.sub _ _ e
  · obtain ⟨z1, z2⟩ := h.out m a u e
    have ha : a ≠ l := fun z => by subst z; rw [q3 m] at e; cases e
    exact ⟨z1, by rw [upd_ne ha]; exact z2⟩
  · by_cases ha : a = l
    · subst ha
      rw [upd_same] at e
      exact ⟨by rw [upd_same]; exact e, q2, q3⟩
    · rw [upd_ne ha] at e
      obtain ⟨z1, z2, z3⟩ := h.grd a u (by rw [upd_ne ha]; exact e)
      exact ⟨by rw [upd_ne ha]; exact z1, z2, z3⟩
/-- .. is known when it is made -/
theorem Rep.known {G F H : Hp} {R : List Addr} {S : Store} {l : Addr} {o : HO} (h : Rep K (upd G l o) F R S H) (n : G l = none) : Same F (upd F l o) ∧ Rep K G (upd F l o) R S H := by
  obtain ⟨pc, h⟩ := h
  obtain ⟨q1, q2, q3⟩ := h.grd l o upd_same
  have s : Same F (upd F l o) := Same.upd_new q2
  refine ⟨s, pc, fun a u e => ?_, h.len, fun m c e => ?_, fun m a u e => ?_, h.sep, h.emp, fun a u e => ?_⟩
  · by_cases ha : a = l
    · subst ha; rw [upd_same] at e; cases e; exact q1
    · rw [upd_ne ha] at e; exact h.sub _ _ e
  · obtain ⟨a, z1, z2⟩ := h.ok m c e
    exact ⟨a, z1, z2.mono s pre_refl⟩
  · obtain ⟨z1, z2⟩ := h.out m a u e
    have ha : a ≠ l := fun z => by subst z; rw [q3 m] at e; cases e
    exact ⟨by rw [upd_ne ha]; exact z1, z2⟩
  · have ha : a ≠ l := fun z => by subst z; rw [n] at e; cases e
    obtain ⟨z1, z2, z3⟩ := h.grd a u (by rw [upd_ne ha]; exact e)
    exact ⟨z1, by rw [upd_ne ha]; exact z2, z3⟩
theorem Rep.gnone {G F H : Hp} {R : List Addr} {S : Store} {l : Addr} (h : Rep K G F R S H) (n : H l = none) : G l = none := by
  obtain ⟨pc, h⟩ := h
  cases q : G l with
  | none => rfl
  | some o => rw [(h.grd l o q).1] at n; cases n
def EjB (C : Kx) (scope : Scope) (m : M) (e : Expr) : Prop := ∀ B : Kx, BlkX C.X scope B.X → Ej B m e
def TjB (C : Kx) (scope : Scope) (t : MT) (e : Expr) : Prop := ∀ B : Kx, BlkX C.X scope B.X → Tj B t e
/-- how the parts of a turn are read -/
structure TurnOk (C : Kx) (tt : TT) (te : TE) (t : MT) (me : M) : Prop where
  t : ∀ (G : Hp) sl S σ F R H, SlR C.K F R σ sl → Rep C.K G F R S H → ∀ (b : Bool) S1, t sl S = .ok b S1 → ∀ Q : Bool → Hp → Prop, (∀ F' R' H', Rep C.K G F' R' S1 H' → Same F F' → R <+: R' → Q b H') → tt σ H Q
  e : ∀ (G : Hp) sl S σ F R H, SlR C.K F R σ sl → Rep C.K G F R S H → ∀ d S1, me sl S = .ok d S1 → ∀ Q : VK, (∀ v F' R' H', RelD C.K F' R' v d → Rep C.K G F' R' S1 H' → Same F F' → R <+: R' → Q v H') → te σ H Q
theorem turn_e {m : M} (h : EjB C scope m elt) : ∀ (G : Hp) sl S σ F R H, SlR C.K F R σ sl → Rep C.K G F R S H → ∀ d S1, m sl S = .ok d S1 → ∀ Q : VK, (∀ v F' R' H', RelD C.K F' R' v d → Rep C.K G F' R' S1 H' → Same F F' → R <+: R' → Q v H') → EB C.X scope elt σ H Q := by
  intro G sl S σ F R H hs hr d S1 em Q k BX hB
  have hK := blk_K hB
  refine h ⟨BX, fun _ _ _ _ => False, takes0, G⟩ hB sl S σ F R H (by show SlR (frX BX) F R σ sl; rw [hK]; exact hs) (by show Rep (frX BX) G F R S H; rw [hK]; exact hr) Q ?_
  rw [em]
  intro v F' R' H' h1 h2 h3 h4
  exact k v F' R' H' (by have z : RelD (frX BX) F' R' v d := h1; rw [hK] at z; exact z) (by have z : Rep (frX BX) G F' R' S1 H' := h2; rw [hK] at z; exact z) h3 h4
theorem turn_t {t : MT} (h : TjB C scope t c) : ∀ (G : Hp) sl S σ F R H, SlR C.K F R σ sl → Rep C.K G F R S H → ∀ (b : Bool) S1, t sl S = .ok b S1 → ∀ Q : Bool → Hp → Prop, (∀ F' R' H', Rep C.K G F' R' S1 H' → Same F F' → R <+: R' → Q b H') → TB C.X scope c σ H Q := by
  intro G sl S σ F R H hs hr b S1 em Q k BX hB
  have hK := blk_K hB
  refine h ⟨BX, fun _ _ _ _ => False, takes0, G⟩ hB sl S σ F R H (by show SlR (frX BX) F R σ sl; rw [hK]; exact hs) (by show Rep (frX BX) G F R S H; rw [hK]; exact hr) Q ?_
  rw [em]
  intro b' F' R' H' h1 h2 h3 h4
  cases (show b' = b from h1)
  exact k F' R' H' (by have z : Rep (frX BX) G F' R' S1 H' := h2; rw [hK] at z; exact z) h3 h4
def eLc (ms : MI) (eff : Eff) (t : MT) (me : M) (own : List Nat) : M := fun sl S => (ms sl S).bind fun its S1 => (lcL eff t me own sl its [] S1).bind fun ps S2 => .ok (.p (.lst ps)) S2
theorem lc_read {tt : TT} {te : TE} {σ : L2.St} {F H : Hp} {R : List Addr} {sl : Slots} {S : Store} {Q : VK} (hs : SlR C.K F R σ sl) (hr : Rep C.K C.G F R S H) (hsrc : SrcOk C wi ms) (ho : GOk C.K g eff js) (hj : ∀ j ∈ js, j ∈ vs) (ht : TurnOk C tt te t me)
    (post : Post C σ F R (RelD C.K) Q (eLc ms eff t me vs sl S)) : tLc wi g tt te vs σ H Q := by
  refine hsrc sl S σ F R H hs hr _ (Post.bind post fun its S1 J F1 R1 H1 _ ok rep1 s1 r1 post1 => ?_)
  intro D hD
  have hs1 := hs.mono s1 r1
  have nG := rep1.gnone hD
  let Pv : Nat → Hp → Prop := fun i H => ∃ (F2 : Hp) (R2 : List Addr) (S2 : Store) (acc : List P) (ws : List V), Same F1 F2 ∧ R1 <+: R2 ∧ Rep C.K (upd C.G D (.lst ws)) F2 R2 S2 H ∧ RpAll C.K F2 ws acc ∧ Post C σ F2 R2 (RelD C.K) Q ((lcL eff t me vs sl (its.drop i) acc S2).bind fun ps S2 => .ok (.p (.lst ps)) S2)
  have start : Pv 0 (upd H1 D (.lst [])) := ⟨F1, R1, S1, [], [], Same.refl _, pre_refl, rep1.guard hD, .nil, post1⟩
  refine ⟨fun i m H => m = its.length - i ∧ i ≤ its.length ∧ Pv i H, ⟨its.length, rfl, Nat.zero_le _, start⟩, ?_⟩
  rintro i m H ⟨rfl, hi, F2, R2, S2, acc, ws, s2, r2, rep2, hr2, post2⟩
  by_cases hlt : i < its.length
  · have hit : its[i]? = some its[i] := List.getElem?_eq_getElem hlt
    have hd : its.drop i = its[i] :: its.drop (i + 1) := List.drop_eq_getElem_cons hlt
    rw [hd] at post2
    obtain ⟨g1, g2⟩ := ok.go i _ F2 H hit s2 rep2.sub
    refine .inr ⟨g1, Pv (i + 1), fun H' p' => ⟨its.length - (i + 1), by omega, rfl, hlt, p'⟩, fun v H' hy => ?_⟩
    obtain ⟨F3, gr3, rv⟩ := g2 v H' hy
    have rep3 := rep2.grow gr3
    simp only [lcL] at post2
    cases he : eff its[i] (wipeS sl vs) with
    | none => simp only [he] at post2; exact post2.elim
    | some sl3 =>
      simp only [he] at post2
      refine ho _ _ sl3 _ F3 R2 H' v _ he rv ((hs1.mono (s2.trans gr3.sF) r2).wipe vs) gr3.sub fun σ3 hs3 off => ?_
      refine ⟨by rw [off.wipe hj, wipe_wipe], ?_⟩
      have e1 : Same F1 F3 := s2.trans gr3.sF
      cases htt : t sl3 S2 with
      | exc x S4 => simp only [htt] at post2; exact post2.elim
      | no => simp only [htt] at post2; exact post2.elim
      | ok b S4 =>
        refine ht.t _ sl3 S2 σ3 F3 R2 H' hs3 rep3 b S4 htt _ fun F4 R4 H4 rep4 s4 r4 => ?_
        have post2 := Post.mono post2 (gr3.sF.trans s4) r4
        cases b with
        | false =>
          simp only [htt] at post2
          show Pv (i + 1) H4
          exact ⟨F4, R4, S4, acc, ws, e1.trans s4, pre_trans r2 r4, rep4, RpAll.mono (gr3.sF.trans s4) _ _ hr2, post2⟩
        | true =>
          simp only [htt] at post2
          show te σ3 H4 _
          cases hme : me sl3 S4 with
          | exc x S5 => simp only [hme] at post2; exact post2.elim
          | no => simp only [hme] at post2; exact post2.elim
          | ok d S5 =>
            cases d with
            | ref n => simp only [hme] at post2; exact post2.elim
            | p z =>
              simp only [hme] at post2
              refine ht.e _ sl3 S4 σ3 F4 R4 H4 (hs3.mono s4 r4) rep4 _ S5 hme _ fun y F5 R5 H5 ry rep5 s5 r5 => ?_
              have post2 := Post.mono post2 s5 r5
              have hr5 := RpAll.mono ((gr3.sF.trans s4).trans s5) _ _ hr2
              by_cases hl : acc.length < sizeLine
              · simp only [if_pos hl] at post2
                have hD5 : H5 D = some (.lst ws) := by
                  obtain ⟨pc, q⟩ := rep5
                  exact (q.grd D _ upd_same).1
                refine ⟨ws, hD5, by rw [hr5.length]; exact hl, F5, R5, S5, acc ++ [z], ws ++ [y], (e1.trans s4).trans s5, pre_trans (pre_trans r2 r4) r5, rep5.regrow, hr5.append (.cons ry .nil), post2⟩
              · simp only [if_neg hl] at post2; exact post2.elim
  · have e : i = its.length := by omega
    subst e
    rw [List.drop_length] at post2
    refine .inl ⟨ok.stop F2 H s2 rep2.sub, ?_⟩
    obtain ⟨sK, repK⟩ := rep2.known nG
    exact post2 (.ref D) _ R2 H (show RelD C.K _ R2 (.ref D) (.p (.lst acc)) from .lst upd_same (RpAll.mono sK _ _ hr2)) repK sK pre_refl
def TgB (C : Kx) (scope : Scope) (tg : Expr) (g : TG) : Prop := ∀ (s : Shared) (H : Hp) (Cc : Addr) (cl : List (Str × Addr)) (fp : List Addr), PG (C.X.blk s H scope (compEnvC scope cl Cc C.X.env) fp) tg g
theorem ej_lc0 (hc : C.X.calm = true) (hN : C.X.N.Nodup) (hi : PI C.X tg iter wi) (hsrc : SrcOk C wi ms) (ok : BlkOk C.X.N C.X.env.scope scope own) (hg : TgB C scope tg g) (ho : GOk C.K g eff js) (hj : ∀ j ∈ js, j ∈ own.map (·.2)) (he : EjB C scope me elt)
    (hf : ∀ x, foldedSetIterable iter C.X.env x = pure x := by intro _; rfl) : Ej C (eLc ms eff tYes me (own.map (·.2))) (.ListComp elt [⟨tg, iter, [], 0⟩] scope pos) := .mk fun sl S σ F R H hs hr Q post =>
  ED.of (pe_lc hc hN hi ok hg (fun _ _ _ _ _ => pts_nil) (fun s H Cc cl fp => pe_b s H Cc cl fp) hf) (lc_read hs hr hsrc ho hj ⟨fun G sl S σ F R H hs hr b S1 e Q k => by cases e; exact k F R H hr (Same.refl _) pre_refl, turn_e he⟩ post)
theorem ej_lc1 (hc : C.X.calm = true) (hN : C.X.N.Nodup) (hi : PI C.X tg iter wi) (hsrc : SrcOk C wi ms) (ok : BlkOk C.X.N C.X.env.scope scope own) (hg : TgB C scope tg g) (ho : GOk C.K g eff js) (hj : ∀ j ∈ js, j ∈ own.map (·.2)) (htt : TjB C scope t c) (he : EjB C scope me elt)
    (hf : ∀ x, foldedSetIterable iter C.X.env x = pure x := by intro _; rfl) : Ej C (eLc ms eff t me (own.map (·.2))) (.ListComp elt [⟨tg, iter, [c], 0⟩] scope pos) := .mk fun sl S σ F R H hs hr Q post =>
  ED.of (pe_lc hc hN hi ok hg (fun s H Cc cl fp => pts_one (pt_b s H Cc cl fp)) (fun s H Cc cl fp => pe_b s H Cc cl fp) hf) (lc_read hs hr hsrc ho hj ⟨turn_t htt, turn_e he⟩ post)
end
end Z

namespace Z
open PySem PySem.Spec PyProof.Rows L2
/-! ### defs -/
abbrev Fn := List D → Store → Rs D
def PostF (K : Fr) (G F : Hp) (R : List Addr) (Q : VK) (E : XK) : Rs D → Prop
  | .ok d S' => ∀ v F' R' H', RelD K F' R' v d → Rep K G F' R' S' H' → Same F F' → R <+: R' → Q v H'
  | .exc x S' => ∀ cls d F' R' H', XRel K F' cls d x → Rep K G F' R' S' H' → Same F F' → R <+: R' → E cls d H'
  | .no => False
/-- the promise of a def that computes f -/
def spF (K : Fr) (n : Nat) (f : Fn) : Sp := fun vs H Q E => vs.length = n ∧ ∃ G F R S ds, Rep K G F R S H ∧ RelAll K F R vs ds ∧ PostF K G F R Q E (f ds S)
def DefAt (K : PySem.W.Frag) (mg : Str → Option Value) (x : Str) (st : Stmt) : Prop := (∃ fd, FunD K x x (defArgs st) (defBody st) (defScope st) [] [] (He.ga K x) fd) ∧ mg x = some (.ref (He.ga K x))
abbrev BindsBy (x : Str) (ps : List Str) (st : Stmt) : Prop := ∀ (kV doc pm : Value) (an : Option Addr) (cdv ct : Value) (us : List Value), us.length = ps.length → bindArgs (PySem.W.fnOf x x (defArgs st) (defBody st) (defScope st) .none kV doc pm an cdv ct) ⟨us, []⟩ = pure (ps.zip us)
def OkF (P : Program) (w : World) (K : PySem.W.Frag) (mg : Str → Option Value) (base : Heap) (k : Nat) (x : Str) (ps : List Str) (f : Fn) : Prop :=
  ∃ fd, FnOk P w K mg base (L2.CX P w) k (He.ga K x) fd ps (spF ⟨K, P, w⟩ ps.length f) ∧ Binds K fd ps [] ∧ PySem.W.keepIn K (.ref (He.ga K x)) = true ∧ mg x = some (.ref (He.ga K x)) ∧ ∃ oc od osl, K.lookup (He.ga K x) = some ⟨oc, od, .func fd, osl⟩
def ent (n : Nat) (ds : List D) : Slots := ds.map some ++ List.replicate (n - ds.length) none
def runB (n : Nat) (b : MS) : Fn := fun ds S => match b (ent n ds) S with
  | .nx _ S' => .ok (.p .non) S'
  | .rt d S' => .ok d S'
  | .exc x _ S' => .exc x S'
  | _ => .no
abbrev cxZ (P : Program) (w : World) (K : PySem.W.Frag) (mg : Str → Option Value) (base : Heap) (N : List Str) (qual : Str) (sc : Scope) (f : Addr) (cdv : Value) (A : Around) (outer : List Env) (s : Shared) (H : Hp) (E : XK) (G : Hp) : Kx :=
  ⟨cxOf (L2.CX P w) P w K mg base N qual sc f cdv A outer s H E, fun cls d _ H => E cls d H, takes_of rfl rfl rfl rfl, G⟩
section
variable {P : Program} {w : World} {K : PySem.W.Frag} {mg : Str → Option Value} {base : Heap} {k : Nat} {x : Str} {N ps : List Str} {st : Stmt} {f : Fn} {b : MS}
theorem ent_rel {K : Fr} {F : Hp} {R : List Addr} {vs : List V} {ds : List D} (h : RelAll K F R vs ds) : SlR K F R (start N vs) (ent N.length ds) := by
  have hl := h.length
  refine ⟨?_, fun i d e => ?_⟩
  · unfold L2.start ent
    rw [List.length_append, List.length_append, List.length_map, List.length_map, List.length_replicate, List.length_replicate, hl]
  · unfold ent at e
    by_cases hi : i < ds.length
    · rw [List.getElem?_append_left (by rw [List.length_map]; exact hi), List.getElem?_map] at e
      cases hT : ds[i]? with
      | none => rw [hT] at e; cases e
      | some T =>
        rw [hT] at e
        cases e
        obtain ⟨v, e1, e2⟩ := RelAll.get' h hT
        refine ⟨v, ?_, e2⟩
        unfold L2.start
        rw [List.getElem?_append_left (by rw [List.length_map, hl]; exact hi), List.getElem?_map, e1]
        rfl
    · rw [List.getElem?_append_right (by rw [List.length_map]; omega), List.getElem?_replicate] at e
      split at e <;> cases e
theorem ok_fn (D : DefAt K mg x st) (S : FnScope N ps (defScope st)) (hb : BindsBy x ps st)
    (body : ∀ (cdv : Value) (A : Around) (outer : List Env) (s : Shared) (H : Hp) (E : XK) (G : Hp), Room k (A.deeper (envOfC x (defScope st) s.heap.objs.size (He.ga K x) cdv)) → Sj (cxZ P w K mg base N x (defScope st) (He.ga K x) cdv A outer s H E G) b (defBody st)) : OkF P w K mg base (k + 1) x ps (runB N.length b) := by
  obtain ⟨⟨fd, Fu⟩, hm⟩ := D
  refine ⟨fd, Fu.ok S (fun vs H Q E h => h.1) (fun cdv A outer s H vs Q E hr h => ?_), Fu.bindsN hb, Fu.kp, hm, let ⟨oc, od, _, _, _, _, _, _, _, osl, _, lk, _⟩ := Fu.ex; ⟨oc, od, osl, lk⟩⟩
  obtain ⟨hl, G, F, R, S0, ds, rep, rx, post⟩ := h
  refine ⟨_, pss_d, body cdv A outer s H E G hr _ S0 _ F R H (ent_rel rx) rep _ ?_⟩
  unfold runB at post
  cases hbb : b (ent N.length ds) S0 with
  | nx sl S' =>
    rw [hbb] at post
    exact fun σ' F' R' H' _ h2 h3 h4 => post .non F' R' H' (show RelD ⟨K, P, w⟩ F' R' .non (.p .non) from .non) h2 h3 h4
  | rt d S' => rw [hbb] at post; exact post
  | exc x sl S' =>
    rw [hbb] at post
    exact fun cls d σ' F' R' H' h0 _ h2 h3 h4 => post cls d F' R' H' h0 h2 h3 h4
  | bk sl S' => rw [hbb] at post; exact post.elim
  | ct sl S' => rw [hbb] at post; exact post.elim
  | no => rw [hbb] at post; exact post.elim
theorem OkF.mono {j : Nat} (h : OkF P w K mg base k x ps f) (hj : k ≤ j) : OkF P w K mg base j x ps f := by
  obtain ⟨fd, h1, h2⟩ := h
  exact ⟨fd, h1.mono hj, h2⟩
theorem OkF.imp {f' : Fn} (h : OkF P w K mg base k x ps f) (hf : ∀ G F R S ds H (Q : VK) (E : XK), Rep ⟨K, P, w⟩ G F R S H → PostF ⟨K, P, w⟩ G F R Q E (f' ds S) → PostF ⟨K, P, w⟩ G F R Q E (f ds S)) : OkF P w K mg base k x ps f' := by
  obtain ⟨fd, h1, h2⟩ := h
  exact ⟨fd, h1.imp fun vs H Q E ⟨hl, G, F, R, S, ds, rep, rx, post⟩ => ⟨hl, G, F, R, S, ds, rep, rx, hf G F R S ds H Q E rep post⟩, h2⟩
end
section
variable {C : Kx} {a b c e : Expr} {es rest : List Expr} {pos p : Pos} {x : Str} {ma : MA} {f : Fn} {k : Nat} {ps : List Str}
def eCall (n : Nat) (f : Fn) (ma : MA) : M := fun sl S => (ma sl S).bind fun ds S1 => if ds.length = n then f ds S1 else .no
abbrev Kx.ok (C : Kx) (k : Nat) (x : Str) (ps : List Str) (f : Fn) : Prop := OkF C.X.prog C.X.w C.X.K C.X.mg C.X.base k x ps f
theorem post_of {σ : L2.St} {F : Hp} {R : List Addr} {Q : VK} {r : Rs D} (h : Post C σ F R (RelD C.K) Q r) : PostF C.K C.G F R Q (WE C.W σ) r := by
  cases r with
  | ok d S => exact h
  | exc x S => exact h
  | no => exact h
theorem ej_call (hF : C.ok k x ps f) (hr : Room k C.X.A) (h : Aj C ma (e :: es)) (hg : Gl C.X x := by rfl) (hdb : (x == ("__debug__" : Str)) = false := by decide) (he : starEach (e :: es) C.X.env = (false, eval e C.X.env) :: starEach es C.X.env := by exact se_of rfl) (hpl : (backTo pos (starEach es C.X.env)).any (·.1) = false := by exact pl_of rfl) :
    Ej C (eCall ps.length f ma) (.Call (.Name x p) (e :: es) [] pos) := .mk fun sl S σ F R H hs hr' Q post => by
  obtain ⟨fd, h1, h2, h3, h4, _⟩ := hF
  refine ED.of (pe_callS h1 hr hg h4 h3 h2 (fun σ => passAt C.tk σ) pa_d hdb he hpl) (h sl S σ F R H hs hr' _ (Post.bind post fun ds S1 vs F1 R1 H1 _ rx rep1 s1 r1 post1 => ?_))
  by_cases hl : ds.length = ps.length
  · rw [if_pos hl] at post1
    exact ⟨by rw [rx.length]; exact hl, C.G, F1, R1, S1, ds, rep1, rx, post_of post1⟩
  · rw [if_neg hl] at post1; exact post1.elim
end
end Z

namespace Z
open PySem PySem.Spec PyProof.Rows L2
/-! ### live lists -/
section
variable {C : Kx} {a b c e o tg : Expr} {es rest : List Expr} {pos p apos cpos : Pos} {x : Str} {m mo me : M} {ma : MA} {K : Fr} {r : V → List V → Hp → VK → Prop}
/-- a method that changes a live list: its items, the arguments; the answer, the items behind -/
def eLm (f : List D → List D → Option (D × List D)) (mo : M) (ma : MA) : M := fun sl S => (mo sl S).bind fun d S1 => match d with
  | .ref n => match S1[n]? with
    | some (.lst _) => (ma sl S1).bind fun as S2 => match S2[n]? with
      | some (.lst ds) => match f ds as with
        | some (d, ds') => .ok d (S2.set n (.lst ds'))
        | none => .no
      | _ => .no
    | _ => .no
  | _ => .no
def LmOk (r : V → List V → Hp → VK → Prop) (f : List D → List D → Option (D × List D)) : Prop := ∀ (K : Fr) F R ds as d ds' vs (l : Addr) xs H (Q : VK), f ds as = some (d, ds') → RelAll K F R vs ds → RelAll K F R xs as → H l = some (.lst vs) → (∀ v vs', RelD K F R v d → RelAll K F R vs' ds' → Q v (upd H l (.lst vs'))) → r (.ref l) xs H Q
theorem Rep.lstAt {G F H : Hp} {R : List Addr} {S : Store} {n : Nat} {ds : List D} (h : Rep K G F R S H) (e : S[n]? = some (.lst ds)) : ∃ l vs, R[n]? = some l ∧ H l = some (.lst vs) ∧ RelAll K F R vs ds := by
  obtain ⟨a, q, e1, ok, out⟩ := h.at e
  cases ok with
  | @lst vs ds hr => exact ⟨a, vs, e1, (out a _ one_same).2, hr⟩
theorem Rep.lstSet {G F H : Hp} {R : List Addr} {S : Store} {n : Nat} {ds ds' : List D} {l : Addr} {vs' : List V} (h : Rep K G F R S H) (e : S[n]? = some (.lst ds)) (el : R[n]? = some l) (hv : RelAll K F R vs' ds') : Rep K G F R (S.set n (.lst ds')) (upd H l (.lst vs')) :=
  h.mut (q' := id) e el fun q ok _ => by
    cases ok with
    | @lst vs ds hr =>
      refine ⟨by rw [one_same]; exact fun z => (nomatch z), ?_⟩
      have e : upd (one l (.lst vs)) l (.lst vs') = one l (.lst vs') := by
        funext a
        unfold upd one
        by_cases ha : a = l
        · rw [if_pos ha, if_pos ha]
        · rw [if_neg ha, if_neg ha, if_neg ha]
      rw [e]
      exact .lst hv
theorem ej_lm {f : List D → List D → Option (D × List D)} (hp : PE C.X e (tBM C.X.K "list" r (ED C.X o) (AD C.X es))) (hf : LmOk r f) (h1 : Ej C mo o) (h2 : Aj C ma es) : Ej C (eLm f mo ma) e := .mk fun sl S σ F R H hs hr Q post =>
  ED.of hp (h1 sl S σ F R H hs hr _ (Post.bind post fun d S1 v F1 R1 H1 _ rv rep1 s1 r1 post1 => by
    cases d with
    | p q => exact post1.elim
    | ref n =>
      cases hn : S1[n]? with
      | none => simp only [hn] at post1; exact post1.elim
      | some cl =>
        cases cl with
        | lst ds0 =>
          simp only [hn] at post1
          obtain ⟨l, vs0, e1, e2, _⟩ := rep1.lstAt hn
          obtain ⟨l', e1', rfl⟩ := rv
          rw [e1] at e1'; cases e1'
          refine ⟨.inl ⟨rfl, vs0, .inl (.inl e2)⟩, h2 sl S1 σ F1 R1 H1 (hs.mono s1 r1) rep1 _ (Post.bind post1 fun as S2 xs F2 R2 H2 _ rx rep2 s2 r2 post2 => ?_)⟩
          cases hn2 : S2[n]? with
          | none => simp only [hn2] at post2; exact post2.elim
          | some cl =>
            cases cl with
            | lst ds =>
              simp only [hn2] at post2
              cases hff : f ds as with
              | none => simp only [hff] at post2; exact post2.elim
              | some q =>
                obtain ⟨d, ds'⟩ := q
                simp only [hff] at post2
                obtain ⟨l2, vs, e3, e4, hr4⟩ := rep2.lstAt hn2
                have e5 := pre_get r2 e1
                rw [e3] at e5; cases e5
                exact hf C.K F2 R2 ds as d ds' vs l xs H2 Q hff hr4 rx e4 fun v vs' hv hvs => post2 v F2 R2 _ hv (rep2.lstSet hn2 e3 hvs) (Same.refl _) pre_refl
            | _ => simp only [hn2] at post2; exact post2.elim
        | _ => simp only [hn] at post1; exact post1.elim))
/-! append, pop, reverse, insert, clear -/
def fApp (ds : List D) : List D → Option (D × List D)
  | [d] => if ds.length < sizeLine then some (.p .non, ds ++ [d]) else none
  | _ => none
theorem lm_app : LmOk rAppend fApp := fun K F R ds as d ds' vs l xs H Q e hv hx hl k => by
  unfold fApp at e
  split at e
  · obtain ⟨hc, e⟩ := if_some e
    cases e
    cases hx with
    | cons hx1 hx2 => cases hx2; exact ⟨l, vs, _, rfl, rfl, hl, by rw [hv.length]; exact hc, k .non _ (show RelD K F R .non (.p .non) from .non) (hv.append (.cons hx1 .nil))⟩
  · cases e
abbrev Bs (C : Kx) (o : Expr) (name : Str) : Prop := attributeBase o name C.X.env (eval o C.X.env) = eval o C.X.env
abbrev Few (C : Kx) (es : List Expr) (cpos : Pos) : Prop := ((backTo cpos (starEach es C.X.env)).all (fun x => !x.1) && (backToKw cpos (keywordEach [] C.X.env)).all (fun x => x.1.isSome)
      && decide (es.length + ([] : List Keyword).length + (if ([] : List Keyword).isEmpty then 0 else 1) < 30)) = true
theorem ej_app (h1 : Ej C mo o) (h2 : Ej C me e) (hbase : Bs C o "append" := by rfl) (hfew : Few C [e] cpos := by rfl) (hline : (apos.endLine == cpos.line) = true := by rfl) (hs : starEach [e] C.X.env = (false, eval e C.X.env) :: starEach [] C.X.env := by exact se_of rfl) :
    Ej C (eLm fApp mo (aC me aN)) (.Call (.Attribute o "append" apos) [e] [] cpos) :=
  ej_lm (pe_bm PySem.F.plainAttrs_list PySem.F.slot_list_append PySem.F.type_list_append mt_append pe_d pa_d hbase hfew hline hs) lm_app h1 (aj_cons h2 aj_nil hs)
def fPop (ds : List D) : List D → Option (D × List D)
  | [] => match ds[ds.length - 1]? with
    | some d => some (d, ds.dropLast)
    | none => none
  | _ => none
theorem RelAll.dropLast {F : Hp} {R : List Addr} : ∀ {vs : List V} {ds : List D}, RelAll K F R vs ds → RelAll K F R vs.dropLast ds.dropLast
  | _, _, .nil => .nil
  | _, _, .cons h .nil => .nil
  | _, _, .cons h (.cons h2 t) => .cons h (RelAll.dropLast (.cons h2 t))
theorem lm_pop : LmOk rPop fPop := fun K F R ds as d ds' vs l xs H Q e hv hx hl k => by
  unfold fPop at e
  split at e
  · split at e
    · rename_i d' hd
      cases e
      cases hx
      obtain ⟨v, e1, e2⟩ := RelAll.get' hv hd
      exact ⟨l, vs, v, rfl, rfl, hl, by rw [hv.length]; exact e1, k v _ e2 hv.dropLast⟩
    · cases e
  · cases e
def fRev (ds : List D) : List D → Option (D × List D)
  | [] => some (.p .non, ds.reverse)
  | _ => none
theorem RelAll.rev {F : Hp} {R : List Addr} {vs : List V} {ds : List D} (h : RelAll K F R vs ds) : RelAll K F R vs.reverse ds.reverse := by
  induction h with
  | nil => exact .nil
  | cons h t ih =>
    rw [List.reverse_cons, List.reverse_cons]
    exact ih.append (.cons h .nil)
theorem lm_rev : LmOk rReverse fRev := fun K F R ds as d ds' vs l xs H Q e hv hx hl k => by
  unfold fRev at e
  split at e
  · cases e
    cases hx
    exact ⟨l, vs, rfl, rfl, hl, k .non _ (show RelD K F R .non (.p .non) from .non) hv.rev⟩
  · cases e
theorem ej_lm0 {f : List D → List D → Option (D × List D)} (hp : PE C.X e (tBM0 C.X.K "list" r (ED C.X o))) (hf : LmOk r f) (h1 : Ej C mo o) : Ej C (eLm f mo aN) e := .mk fun sl S σ F R H hs hr Q post =>
  ED.of hp (h1 sl S σ F R H hs hr _ (Post.bind post fun d S1 v F1 R1 H1 _ rv rep1 s1 r1 post1 => by
    cases d with
    | p q => exact post1.elim
    | ref n =>
      cases hn : S1[n]? with
      | none => simp only [hn] at post1; exact post1.elim
      | some cl =>
        cases cl with
        | lst ds =>
          simp only [hn, aN, Rs.bind] at post1
          obtain ⟨l, vs, e1, e2, hr4⟩ := rep1.lstAt hn
          obtain ⟨l', e1', rfl⟩ := rv
          rw [e1] at e1'; cases e1'
          refine ⟨.inl ⟨rfl, vs, .inl (.inl e2)⟩, ?_⟩
          cases hff : f ds [] with
          | none => simp only [hff] at post1; exact post1.elim
          | some q =>
            obtain ⟨d, ds'⟩ := q
            simp only [hff] at post1
            exact hf C.K F1 R1 ds [] d ds' vs l [] H1 Q hff hr4 .nil e2 fun v vs' hv hvs => post1 v F1 R1 _ hv (rep1.lstSet hn e1 hvs) (Same.refl _) pre_refl
        | _ => simp only [hn] at post1; exact post1.elim))
theorem ej_pop (h1 : Ej C mo o) (hbase : Bs C o "pop" := by rfl) (hline : (apos.endLine == cpos.line) = true := by rfl) : Ej C (eLm fPop mo aN) (.Call (.Attribute o "pop" apos) [] [] cpos) :=
  ej_lm0 (pe_bm0 PySem.F.plainAttrs_list PySem.F.slot_list_pop PySem.F.type_list_pop mt_pop pe_d hbase hline) lm_pop h1
theorem ej_rev (h1 : Ej C mo o) (hbase : Bs C o "reverse" := by rfl) (hline : (apos.endLine == cpos.line) = true := by rfl) : Ej C (eLm fRev mo aN) (.Call (.Attribute o "reverse" apos) [] [] cpos) :=
  ej_lm0 (pe_bm0 PySem.F.plainAttrs_list PySem.F.slot_list_reverse PySem.F.type_list_reverse mt_reverse pe_d hbase hline) lm_rev h1
def fPopAt (ds : List D) : List D → Option (D × List D)
  | [.p (.int i)] => if -(2 ^ 63) ≤ i ∧ i < 2 ^ 63 then match ixN ds.length i with
      | some k => match ds[k]? with
        | some d => some (d, ds.eraseIdx k)
        | none => none
      | none => none
    else none
  | _ => none
theorem RelAll.erase {F : Hp} {R : List Addr} : ∀ {vs : List V} {ds : List D} (k : Nat), RelAll K F R vs ds → RelAll K F R (vs.eraseIdx k) (ds.eraseIdx k)
  | _, _, _, .nil => .nil
  | _, _, 0, .cons _ t => t
  | _, _, k + 1, .cons h t => .cons h (RelAll.erase k t)
theorem lm_popAt : LmOk rPopAt fPopAt := fun K F R ds as d ds' vs l xs H Q e hv hx hl k => by
  unfold fPopAt at e
  split at e
  · rename_i i
    split at e
    · rename_i hc
      split at e
      · rename_i j hj
        split at e
        · rename_i d' hd
          cases e
          cases hx with
          | cons hx1 hx2 =>
            cases hx2
            cases hx1
            obtain ⟨v, e1, e2⟩ := RelAll.get' hv hd
            exact ⟨l, vs, i, j, v, rfl, rfl, hl, hc.1, hc.2, by rw [hv.length]; exact (ixN_seq hj).1, e1, k v _ e2 (hv.erase j)⟩
        · cases e
      · cases e
    · cases e
  · cases e
theorem ej_popAt (h1 : Ej C mo o) (h2 : Ej C me e) (hbase : Bs C o "pop" := by rfl) (hfew : Few C [e] cpos := by rfl) (hline : (apos.endLine == cpos.line) = true := by rfl) (hs : starEach [e] C.X.env = (false, eval e C.X.env) :: starEach [] C.X.env := by exact se_of rfl) :
    Ej C (eLm fPopAt mo (aC me aN)) (.Call (.Attribute o "pop" apos) [e] [] cpos) :=
  ej_lm (pe_bm PySem.F.plainAttrs_list PySem.F.slot_list_pop PySem.F.type_list_pop mt_popAt pe_d pa_d hbase hfew hline hs) lm_popAt h1 (aj_cons h2 aj_nil hs)
/-! extend: by what stands still or a live list of such -/
def eExt (mo me : M) : M := fun sl S => (mo sl S).bind fun d S1 => match d with
  | .ref n => match S1[n]? with
    | some (.lst _) => (me sl S1).bind fun a S2 => match S2[n]?, view S2 a with
      | some (.lst ds), some (.lst ps) => if ds.length + ps.length ≤ sizeLine then .ok (.p .non) (S2.set n (.lst (ds ++ ps.map .p))) else .no
      | _, _ => .no
    | _ => .no
  | _ => .no
theorem ej_ext (h1 : Ej C mo o) (h2 : Ej C me e) (hbase : Bs C o "extend" := by rfl) (hfew : Few C [e] cpos := by rfl) (hline : (apos.endLine == cpos.line) = true := by rfl) (hse : starEach [e] C.X.env = (false, eval e C.X.env) :: starEach [] C.X.env := by exact se_of rfl) :
    Ej C (eExt mo me) (.Call (.Attribute o "extend" apos) [e] [] cpos) := .mk fun sl S σ F R H hs hr Q post =>
  ED.of (pe_bm PySem.F.plainAttrs_list PySem.F.slot_list_extend PySem.F.type_list_extend mt_extend pe_d (pa_cons pe_d pa_nil hse) hbase hfew hline hse) (h1 sl S σ F R H hs hr _ (Post.bind post fun d S1 v F1 R1 H1 _ rv rep1 s1 r1 post1 => by
    cases d with
    | p q => exact post1.elim
    | ref n =>
      cases hn : S1[n]? with
      | none => simp only [hn] at post1; exact post1.elim
      | some cl =>
        cases cl with
        | lst ds0 =>
          simp only [hn] at post1
          obtain ⟨l, vs0, e1, e2, _⟩ := rep1.lstAt hn
          obtain ⟨l', e1', rfl⟩ := rv
          rw [e1] at e1'; cases e1'
          refine ⟨.inl ⟨rfl, vs0, .inl (.inl e2)⟩, h2 sl S1 σ F1 R1 H1 (hs.mono s1 r1) rep1 _ (Post.bind post1 fun a S2 y F2 R2 H2 _ ry rep2 s2 r2 post2 => ?_)⟩
          cases hn2 : S2[n]? with
          | none => simp only [hn2] at post2; exact post2.elim
          | some cl =>
            cases cl with
            | lst ds =>
              cases hv : view S2 a with
              | none => simp only [hn2, hv] at post2; exact post2.elim
              | some q =>
                cases q with
                | lst ps =>
                  simp only [hn2, hv] at post2
                  by_cases hl : ds.length + ps.length ≤ sizeLine
                  · rw [if_pos hl] at post2
                    obtain ⟨l2, vs, e3, e4, hr4⟩ := rep2.lstAt hn2
                    have e5 := pre_get r2 e1
                    rw [e3] at e5; cases e5
                    obtain ⟨b, ws, rfl, e6, hr6⟩ := (view_vw ry rep2 hv).lstE rep2.sub
                    exact ⟨l, b, vs, ws, rfl, rfl, e4, e6, by rw [hr4.length, hr6.length]; exact hl, post2 .non F2 R2 _ (show RelD C.K F2 R2 .non (.p .non) from .non) (rep2.lstSet hn2 e3 (hr4.append (RelAll.of_p hr6))) (Same.refl _) pre_refl⟩
                  · rw [if_neg hl] at post2; exact post2.elim
                | _ => simp only [hn2, hv] at post2; exact post2.elim
            | _ => simp only [hn2] at post2; exact post2.elim
        | _ => simp only [hn] at post1; exact post1.elim))
/-! x[i] = e, x a live list -/
def sIxSet (mo mi me : M) : MS := fun sl S => (me sl S).st sl fun v S1 => (mo sl S1).st sl fun d S2 => (mi sl S2).st sl fun i S3 => match d, i with
  | .ref n, .p (.int k) => match S3[n]? with
    | some (.lst ds) => match ixN ds.length k with
      | some j => .nx sl (S3.set n (.lst (ds.set j v)))
      | none => .no
    | _ => .no
  | _, _ => .no
theorem sj_ixset {mi : M} (h0 : Ej C me e) (h1 : Ej C mo o) (h2 : Ej C mi a) (ha : ∀ v, assign (.Subscript o a apos) C.X.env v = (do
      let ov ← holding [v] (eval o C.X.env)
      let iv ← holding [v, ov] (eval a C.X.env)
      standAt apos
      holding [v, ov, iv] (setItem ov iv v)
      release [v, ov, iv] []) := by intro _; rfl) (hs' : swapsWithSole [.Subscript o a apos] e pos.line C.X.env = pure false := by rfl) (hw : swappedStores [.Subscript o a apos] e C.X.env = pure none := by rfl)
    (h1' : (assignEach [.Subscript o a apos] C.X.env).map (·.2) = [assign (.Subscript o a apos) C.X.env] := by rfl) : Sj1 C (sIxSet mo mi me) (.Assign [.Subscript o a apos] e pos) := .mk fun sl S σ F R H hs hr D post =>
  SD1.of (ps_asg pe_d (pg_sub pe_d pe_d set_list ha) hs' hw h1') (h0 sl S σ F R H hs hr _ (PostS.bind post hs fun v S1 x F1 R1 H1 _ rx rep1 s1 r1 hs1 post1 => h1 sl S1 σ F1 R1 H1 hs1 rep1 _ (PostS.bind post1 hs1 fun d S2 y F2 R2 H2 _ ry rep2 s2 r2 hs2 post2 => h2 sl S2 σ F2 R2 H2 hs2 rep2 _ (PostS.bind post2 hs2 fun i S3 z F3 R3 H3 _ rz rep3 s3 r3 hs3 post3 => by
    cases d with
    | p q => exact post3.elim
    | ref n =>
      cases i with
      | ref n => exact post3.elim
      | p q =>
        cases q with
        | int k =>
          cases hn : S3[n]? with
          | none => simp only [hn] at post3; exact post3.elim
          | some cl =>
            cases cl with
            | lst ds =>
              simp only [hn] at post3
              cases hj : ixN ds.length k with
              | none => simp only [hj] at post3; exact post3.elim
              | some j =>
                simp only [hj] at post3
                obtain ⟨l, vs, e1, e2, hr4⟩ := rep3.lstAt hn
                obtain ⟨l', e1', rfl⟩ := ry.mono s3 r3
                rw [e1] at e1'; cases e1'
                cases rz
                exact ⟨l, vs, k, j, rfl, rfl, e2, by rw [hr4.length]; exact hj, post3 σ F3 R3 _ hs3 (rep3.lstSet hn e1 (RelAll.set ((rx.mono s2 r2).mono s3 r3) j hr4)) (Same.refl _) pre_refl⟩
            | _ => simp only [hn] at post3; exact post3.elim
        | _ => exact post3.elim))))
end
end Z

namespace Z
open PySem PySem.Spec PyProof.Rows L2
/-! ### equal stores -/
mutual
def beqP : P → P → Bool
  | .non, .non => true
  | .bl a, .bl b => a == b
  | .int i, .int j => i == j
  | .str x, .str y => decide (x = y)
  | .tup xs, .tup ys => beqPs xs ys
  | .lst xs, .lst ys => beqPs xs ys
  | .dic a ks xs, .dic b ls ys => a == b && beqPs ks ls && beqPs xs ys
  | .ins c ks xs, .ins d ls ys => decide (c = d) && decide (ks = ls) && beqPs xs ys
  | .glo x, .glo y => decide (x = y)
  | .ty x, .ty y => decide (x = y)
  | .scr x, .scr y => decide (x = y)
  | _, _ => false
def beqPs : List P → List P → Bool
  | [], [] => true
  | x :: xs, y :: ys => beqP x y && beqPs xs ys
  | _, _ => false
end
mutual
theorem beqP_eq : ∀ (p q : P), beqP p q = true → p = q
  | .non, q, h => by cases q <;> first | rfl | (simp [beqP] at h)
  | .bl a, q, h => by cases q <;> first | (simp [beqP] at h; done) | (simp [beqP] at h; rw [h])
  | .int a, q, h => by cases q <;> first | (simp [beqP] at h; done) | (simp [beqP] at h; rw [h])
  | .str a, q, h => by cases q <;> first | (simp [beqP] at h; done) | (simp [beqP] at h; rw [h])
  | .tup xs, q, h => by cases q <;> first | (simp [beqP] at h; done) | (simp [beqP] at h; rw [beqPs_eq _ _ h])
  | .lst xs, q, h => by cases q <;> first | (simp [beqP] at h; done) | (simp [beqP] at h; rw [beqPs_eq _ _ h])
  | .dic a ks xs, q, h => by cases q <;> first | (simp [beqP] at h; done) | (simp [beqP] at h; rw [h.1.1, beqPs_eq _ _ h.1.2, beqPs_eq _ _ h.2])
  | .ins c ks xs, q, h => by cases q <;> first | (simp [beqP] at h; done) | (simp [beqP] at h; rw [h.1.1, h.1.2, beqPs_eq _ _ h.2])
  | .glo a, q, h => by cases q <;> first | (simp [beqP] at h; done) | (simp [beqP] at h; rw [h])
  | .ty a, q, h => by cases q <;> first | (simp [beqP] at h; done) | (simp [beqP] at h; rw [h])
  | .scr a, q, h => by cases q <;> first | (simp [beqP] at h; done) | (simp [beqP] at h; rw [h])
theorem beqPs_eq : ∀ (xs ys : List P), beqPs xs ys = true → xs = ys
  | [], ys, h => by cases ys <;> first | rfl | (simp [beqPs] at h)
  | x :: xs, ys, h => by
    cases ys with
    | nil => simp [beqPs] at h
    | cons y ys => simp [beqPs] at h; rw [beqP_eq _ _ h.1, beqPs_eq _ _ h.2]
end
mutual
theorem beqP_refl : ∀ p : P, beqP p p = true
  | .non => by simp [beqP]
  | .bl _ => by simp [beqP]
  | .int _ => by simp [beqP]
  | .str _ => by simp [beqP]
  | .tup xs => by simp [beqP, beqPs_refl xs]
  | .lst xs => by simp [beqP, beqPs_refl xs]
  | .dic _ ks xs => by simp [beqP, beqPs_refl xs, beqPs_refl ks]
  | .ins c ks xs => by simp [beqP, beqPs_refl xs]
  | .glo _ => by simp [beqP]
  | .ty _ => by simp [beqP]
  | .scr _ => by simp [beqP]
theorem beqPs_refl : ∀ xs : List P, beqPs xs xs = true
  | [] => by simp [beqPs]
  | x :: xs => by simp [beqPs, beqP_refl x, beqPs_refl xs]
end
instance : DecidableEq P := fun p q => if h : beqP p q = true then isTrue (beqP_eq p q h) else isFalse fun e => h (e ▸ beqP_refl p)
instance : DecidableEq D := fun a b => match a, b with
  | .p x, .p y => if h : x = y then isTrue (h ▸ rfl) else isFalse fun e => h (D.p.inj e)
  | .ref x, .ref y => if h : x = y then isTrue (h ▸ rfl) else isFalse fun e => h (D.ref.inj e)
  | .p _, .ref _ => isFalse fun e => nomatch e
  | .ref _, .p _ => isFalse fun e => nomatch e
instance : DecidableEq Cell := fun a b => match a, b with
  | .lst x, .lst y => if h : x = y then isTrue (h ▸ rfl) else isFalse fun e => h (Cell.lst.inj e)
  | .dic a x y, .dic b z w => if h : a = b ∧ x = z ∧ y = w then isTrue (h.1 ▸ h.2.1 ▸ h.2.2 ▸ rfl) else isFalse fun e => h (Cell.dic.inj e)
  | .ins c x y, .ins d z w => if h : c = d ∧ x = z ∧ y = w then isTrue (h.1 ▸ h.2.1 ▸ h.2.2 ▸ rfl) else isFalse fun e => h (Cell.ins.inj e)
  | .dead, .dead => isTrue rfl
  | .lst _, .dic _ _ _ => isFalse fun e => nomatch e
  | .lst _, .ins _ _ _ => isFalse fun e => nomatch e
  | .lst _, .dead => isFalse fun e => nomatch e
  | .dic _ _ _, .lst _ => isFalse fun e => nomatch e
  | .dic _ _ _, .ins _ _ _ => isFalse fun e => nomatch e
  | .dic _ _ _, .dead => isFalse fun e => nomatch e
  | .ins _ _ _, .lst _ => isFalse fun e => nomatch e
  | .ins _ _ _, .dic _ _ _ => isFalse fun e => nomatch e
  | .ins _ _ _, .dead => isFalse fun e => nomatch e
  | .dead, .lst _ => isFalse fun e => nomatch e
  | .dead, .dic _ _ _ => isFalse fun e => nomatch e
  | .dead, .ins _ _ _ => isFalse fun e => nomatch e

/-! ### what is made in a def stands still behind it -/
def mapO {α β : Type} (f : α → Option β) : List α → Option (List β)
  | [] => some []
  | a :: as => match f a, mapO f as with
    | some b, some bs => some (b :: bs)
    | _, _ => none
def fzD (S : Store) (n0 : Nat) : Nat → D → Option P
  | _, .p p => some p
  | 0, .ref _ => none
  | k + 1, .ref n => if n < n0 then none else match S[n]? with
    | some (.lst ds) => (mapO (fzD S n0 k) ds).map .lst
    | some (.dic t ks ds) => (mapO (fzD S n0 k) ds).map (.dic t ks)
    | some (.ins c ks ds) => (mapO (fzD S n0 k) ds).map (.ins c ks)
    | _ => none
def clDb (n : Nat) : D → Bool
  | .p _ => true
  | .ref m => decide (m < n)
def clCb (n : Nat) : Cell → Bool
  | .lst ds => ds.all (clDb n)
  | .dic _ _ ds => ds.all (clDb n)
  | .ins _ _ ds => ds.all (clDb n)
  | .dead => true
def fzR (n0 : Nat) (S' : Store) (d : D) : Rs D := match d with
  | .p p => .ok (.p p) (S'.take n0)
  | .ref m => if m < n0 then .ok (.ref m) (S'.take n0) else match fzD S' n0 8 (.ref m) with
    | some p => .ok (.p p) (S'.take n0)
    | none => .no
def froz (n0 : Nat) : Rs D → Rs D
  | .ok d S' => if (S'.take n0).all (clCb n0) = true then fzR n0 S' d else .no
  | .exc x S' => if (S'.take n0).all (clCb n0) = true then .exc x (S'.take n0) else .no
  | .no => .no
def runZ (n : Nat) (b : MS) : Fn := fun ds S => froz S.length (runB n b ds S)
section
variable {K : Fr} {G F H F' H' : Hp} {R R' : List Addr} {S S' : Store} {pc : Nat → Hp}
def clD (n : Nat) : D → Prop
  | .p _ => True
  | .ref m => m < n
def clC (n : Nat) : Cell → Prop
  | .lst ds => ∀ d ∈ ds, clD n d
  | .dic _ _ ds => ∀ d ∈ ds, clD n d
  | .ins _ _ ds => ∀ d ∈ ds, clD n d
  | .dead => True
theorem RelD.cl {v : V} {d : D} (h : RelD K F R v d) : clD R.length d := by
  cases d with
  | p _ => trivial
  | ref n => obtain ⟨a, e, _⟩ := h; exact (List.getElem?_eq_some_iff.mp e).1
theorem RelAll.cl : ∀ {vs : List V} {ds : List D}, RelAll K F R vs ds → ∀ d ∈ ds, clD R.length d
  | _, _, .nil, _, h => by cases h
  | _, _, .cons h t, d, hd => by
    rcases List.mem_cons.mp hd with rfl | hd
    · exact h.cl
    · exact RelAll.cl t d hd
theorem CellOk.cl {a : Addr} {q : Hp} {c : Cell} (h : CellOk K F R a q c) : clC R.length c := by
  cases h with
  | lst h => exact h.cl
  | dicK _ h => exact h.cl
  | dicN _ _ _ h => exact h.cl
  | ins _ _ h => exact h.cl
  | dead => trivial
theorem RelD.cut {v : V} {d : D} {n : Nat} (h : RelD K F R' v d) (hc : clD n d) (e : Same F F') : RelD K F' (R'.take n) v d := by
  cases d with
  | p _ => exact Rp.mono e _ _ h
  | ref m =>
    obtain ⟨a, e, rfl⟩ := h
    have hc : m < n := hc
    exact ⟨a, by rw [List.getElem?_take, if_pos hc]; exact e, rfl⟩
theorem RelAll.cut {n : Nat} (e : Same F F') : ∀ {vs : List V} {ds : List D}, RelAll K F R' vs ds → (∀ d ∈ ds, clD n d) → RelAll K F' (R'.take n) vs ds
  | _, _, .nil, _ => .nil
  | _, _, .cons h t, hd => .cons (h.cut (hd _ (List.mem_cons_self ..)) e) (RelAll.cut e t fun d h => hd d (List.mem_cons_of_mem _ h))
theorem CellOk.cut {n : Nat} {a : Addr} {q : Hp} {c : Cell} (e : Same F F') (h : CellOk K F R' a q c) (hc : clC n c) : CellOk K F' (R'.take n) a q c := by
  cases h with
  | lst h => exact .lst (h.cut e hc)
  | dicK hk h => exact .dicK hk (h.cut e hc)
  | dicN h1 h2 h3 h => exact .dicN (RpAll.mono e _ _ h1) h2 h3 (h.cut e hc)
  | ins hd hk h => exact .ins hd hk (h.cut e hc)
  | dead => exact .dead
open Classical in
noncomputable def fzF (F : Hp) (pc : Nat → Hp) (n0 : Nat) (H : Hp) : Hp := fun a => if ∃ n, n0 ≤ n ∧ pc n a ≠ none then H a else F a
theorem fzF_in {n0 n : Nat} {a : Addr} {o : HO} (hn : n0 ≤ n) (e : pc n a = some o) : fzF F pc n0 H a = H a := by
  unfold fzF
  rw [if_pos ⟨n, hn, by rw [e]; exact fun z => nomatch z⟩]
theorem fzF_out {n0 : Nat} {a : Addr} (h : ¬ ∃ n, n0 ≤ n ∧ pc n a ≠ none) : fzF F pc n0 H a = F a := by
  unfold fzF
  rw [if_neg h]
theorem fzF_same (h : Rpc K G F R S H pc) (n0 : Nat) : Same F (fzF F pc n0 H) := fun a o e => by
  rw [fzF_out]
  · exact e
  · rintro ⟨n, _, hn⟩
    cases q : pc n a with
    | none => exact hn q
    | some u => rw [(h.out n a u q).1] at e; cases e
theorem mapO_rel {f : D → Option P} {F' : Hp} (hf : ∀ v d p, RelD K F R v d → f d = some p → Rp K F' v p) : ∀ {vs : List V} {ds : List D} {ps : List P}, RelAll K F R vs ds → mapO f ds = some ps → RpAll K F' vs ps
  | _, _, _, .nil, e => by cases e; exact .nil
  | _, _, ps, .cons (b := d) (l₂ := ds) h t, e => by
    cases e1 : f d with
    | none => simp only [mapO, e1] at e; cases e
    | some p =>
      cases e2 : mapO f ds with
      | none => simp only [mapO, e1, e2] at e; cases e
      | some qs =>
        simp only [mapO, e1, e2] at e; cases e
        exact .cons (hf _ _ _ h e1) (mapO_rel hf t e2)
theorem fzD_rel (h : Rpc K G F R S H pc) (n0 : Nat) : ∀ (k : Nat) (v : V) (d : D) (p : P), RelD K F R v d → fzD S n0 k d = some p → Rp K (fzF F pc n0 H) v p := by
  intro k
  induction k with
  | zero =>
    intro v d p hv e
    cases d with
    | p q => cases e; exact Rp.mono (fzF_same h n0) _ _ hv
    | ref n => cases e
  | succ k ih =>
    intro v d p hv e
    cases d with
    | p q => cases e; exact Rp.mono (fzF_same h n0) _ _ hv
    | ref n =>
      simp only [fzD] at e
      split at e
      · cases e
      · rename_i hn
        have hn : n0 ≤ n := by omega
        cases hc : S[n]? with
        | none => rw [hc] at e; cases e
        | some c =>
          rw [hc] at e
          obtain ⟨a, ea, ok⟩ := h.ok n c hc
          obtain ⟨a', ea', rfl⟩ := hv
          rw [ea] at ea'; cases ea'
          generalize hq : pc n = q at ok
          have at_ : ∀ b o, q b = some o → fzF F pc n0 H b = some o := fun b o z => by
            rw [fzF_in hn (show pc n b = some o by rw [hq]; exact z)]
            exact (h.out n b o (by rw [hq]; exact z)).2
          cases ok with
          | @lst vs ds hr =>
            cases hm : mapO (fzD S n0 k) ds with
            | none => simp only [hm] at e; cases e
            | some ps =>
              simp only [hm] at e; cases e
              exact .lst (at_ _ _ one_same) (mapO_rel ih hr hm)
          | @dicK kvs ks ds hk hr =>
            cases hm : mapO (fzD S n0 k) ds with
            | none => simp only [hm] at e; cases e
            | some ps =>
              simp only [hm] at e; cases e
              exact .dicK (at_ _ _ one_same) hk (mapO_rel ih hr hm)
          | @dicN kvs ks ds h1 h2 h3 hr =>
            cases hm : mapO (fzD S n0 k) ds with
            | none => simp only [hm] at e; cases e
            | some ps =>
              simp only [hm] at e; cases e
              exact .dicN (at_ _ _ one_same) (RpAll.mono (fzF_same h n0) _ _ h1) h2 h3 (mapO_rel ih hr hm)
          | @ins dx c fs ks ds hd hk hr =>
            cases hm : mapO (fzD S n0 k) ds with
            | none => simp only [hm] at e; cases e
            | some ps =>
              simp only [hm] at e; cases e
              exact .ins (at_ _ _ two_fst) (at_ _ _ (two_snd hd)) hk (mapO_rel ih hr hm)
          | dead => cases e
theorem clDb_ok {n : Nat} {d : D} (h : clDb n d = true) : clD n d := by
  cases d with
  | p _ => trivial
  | ref m =>
    have h : decide (m < n) = true := h
    exact (of_decide_eq_true h : m < n)
theorem clCb_ok {n : Nat} {c : Cell} (h : clCb n c = true) : clC n c := by
  cases c with
  | lst ds => exact fun d hd => clDb_ok (List.all_eq_true.mp h d hd)
  | dic _ _ ds => exact fun d hd => clDb_ok (List.all_eq_true.mp h d hd)
  | ins _ _ ds => exact fun d hd => clDb_ok (List.all_eq_true.mp h d hd)
  | dead => trivial
theorem rep_cut {F0 H0 : Hp} {S0 : Store} (h0 : Rep K G F0 R S0 H0) (h : Rpc K G F R' S' H pc) (hR : R <+: R') (hS : (S'.take S0.length).all (clCb S0.length) = true) : R'.take S0.length = R ∧ Rep K G (fzF F pc S0.length H) R (S'.take S0.length) H := by
  have hl := h0.len
  have eR : R'.take S0.length = R := by
    obtain ⟨t, rfl⟩ := hR
    rw [← hl, List.take_left]
  have hlen : S0.length ≤ S'.length := by
    obtain ⟨t, rfl⟩ := hR
    rw [← h.len, List.length_append]; omega
  have hlt : (S'.take S0.length).length = S0.length := by rw [List.length_take]; omega
  refine ⟨eR, fun n => if n < S0.length then pc n else nil, fun a o e => ?_, by rw [hlt]; exact hl, fun n c e => ?_, fun n a o e => ?_, fun n m a e1 e2 => ?_, fun n hn => ?_, fun a o e => ?_⟩
  · by_cases hx : ∃ n, S0.length ≤ n ∧ pc n a ≠ none
    · obtain ⟨n, hn, hp⟩ := hx
      cases q : pc n a with
      | none => exact absurd q hp
      | some u => rw [fzF_in hn q] at e; exact e
    · rw [fzF_out hx] at e; exact h.sub _ _ e
  · have hn : n < S0.length := by
      have := (List.getElem?_eq_some_iff.mp e).1
      omega
    have hcl := clCb_ok (List.all_eq_true.mp hS c (List.mem_of_getElem? e))
    have e' : S'[n]? = some c := by
      have := e
      rw [List.getElem?_take, if_pos hn] at this
      exact this
    obtain ⟨a, e1, e2⟩ := h.ok n c e'
    refine ⟨a, ?_, ?_⟩
    · rw [← eR, List.getElem?_take, if_pos hn]; exact e1
    · show CellOk K (fzF F pc S0.length H) R a (if n < S0.length then pc n else nil) c
      rw [if_pos hn, ← eR]
      exact e2.cut (fzF_same h _) hcl
  · have e : (if n < S0.length then pc n else nil) a = some o := e
    by_cases hn : n < S0.length
    · rw [if_pos hn] at e
      obtain ⟨z1, z2⟩ := h.out n a o e
      refine ⟨?_, z2⟩
      rw [fzF_out]
      · exact z1
      · rintro ⟨m, hm, hp⟩
        have := h.sep n m a (by rw [e]; exact fun z => nomatch z) hp
        omega
    · rw [if_neg hn] at e; cases e
  · have key : ∀ j, (if j < S0.length then pc j else nil) a ≠ none → pc j a ≠ none := fun j hj => by
      by_cases hn : j < S0.length
      · rw [if_pos hn] at hj; exact hj
      · rw [if_neg hn] at hj; exact absurd rfl hj
    exact h.sep n m a (key n e1) (key m e2)
  · show (if n < S0.length then pc n else nil) = nil
    rw [if_neg (by omega)]
  · obtain ⟨z1, z2, z3⟩ := h.grd a o e
    refine ⟨z1, ?_, fun n => ?_⟩
    · rw [fzF_out]
      · exact z2
      · rintro ⟨m, _, hp⟩
        exact hp (z3 m)
    · show (if n < S0.length then pc n else nil) a = none
      split
      · exact z3 n
      · rfl
theorem froz_post {F0 H0 : Hp} {S0 : Store} {Q : VK} {E : XK} {r : Rs D} (h0 : Rep K G F0 R S0 H0) (post : PostF K G F0 R Q E (froz S0.length r)) : PostF K G F0 R Q E r := by
  cases r with
  | ok d S' =>
    intro v F' R' H' hv rep s pr
    simp only [froz] at post
    by_cases hS : (S'.take S0.length).all (clCb S0.length) = true
    · rw [if_pos hS] at post
      obtain ⟨pc, rep⟩ := rep
      obtain ⟨eR, rep'⟩ := rep_cut h0 rep pr hS
      have sm := s.trans (fzF_same rep S0.length)
      cases d with
      | p p => exact post v _ R H' (Rp.mono (fzF_same rep _) _ _ hv) rep' sm pre_refl
      | ref m =>
        simp only [fzR] at post
        by_cases hm : m < S0.length
        · rw [if_pos hm] at post
          refine post v _ R H' ?_ rep' sm pre_refl
          rw [← eR]
          exact RelD.cut hv hm (fzF_same rep _)
        · rw [if_neg hm] at post
          cases hf : fzD S' S0.length 8 (.ref m) with
          | none => simp only [hf] at post; exact post.elim
          | some p =>
            simp only [hf] at post
            exact post v _ R H' (fzD_rel rep _ 8 v _ p hv hf) rep' sm pre_refl
    · rw [if_neg hS] at post; exact post.elim
  | exc x S' =>
    intro cls d F' R' H' hx rep s pr
    simp only [froz] at post
    by_cases hS : (S'.take S0.length).all (clCb S0.length) = true
    · rw [if_pos hS] at post
      obtain ⟨pc, rep⟩ := rep
      obtain ⟨_, rep'⟩ := rep_cut h0 rep pr hS
      have sm := fzF_same rep S0.length
      refine post cls d _ R H' ?_ rep' (s.trans sm) pre_refl
      obtain ⟨h1, h2⟩ := hx
      refine ⟨h1, ?_⟩
      rcases h2 with h2 | ⟨a, fs, e1, e2, e3, e4⟩
      · exact .inl h2
      · exact .inr ⟨a, fs, e1, sm _ _ e2, e3, RpAll.mono sm _ _ e4⟩
    · rw [if_neg hS] at post; exact post.elim
  | no => exact post.elim
end
theorem ok_fz {Pg : Program} {w : World} {K : PySem.W.Frag} {mg : Str → Option Value} {base : Heap} {k : Nat} {x : Str} {ps : List Str} {n : Nat} {b : MS} (h : OkF Pg w K mg base k x ps (runB n b)) : OkF Pg w K mg base k x ps (runZ n b) :=
  h.imp fun G F R S ds H Q E rep post => froz_post rep post
end Z

namespace Z
open PySem PySem.Spec PyProof.Rows L2
section
variable {K : Fr}
theorem vw1 {F H : Hp} {vs : List V} {p : P} (h : VwAll K F H vs [p]) : ∃ v, vs = [v] ∧ Vw K F H v p := by
  cases h with
  | cons h t => cases t; exact ⟨_, rfl, h⟩
theorem vw2 {F H : Hp} {vs : List V} {p q : P} (h : VwAll K F H vs [p, q]) : ∃ v w, vs = [v, w] ∧ Vw K F H v p ∧ Vw K F H w q := by
  cases h with
  | cons h t =>
    cases t with
    | cons h2 t => cases t; exact ⟨_, _, rfl, h, h2⟩
/-! len -/
def lenP : List P → Option P
  | [.str z] => if z.length ≤ sizeLine then some (.int (z.length : Int)) else none
  | [.lst ps] => some (.int (ps.length : Int))
  | [.tup ps] => some (.int (ps.length : Int))
  | [.scr ns] => some (.int (ns.length : Int))
  | _ => none
theorem cv_len : CallV K (fun xs H Q => ∃ x n, xs = [x] ∧ LenV K.K x H n ∧ Q (.int n) H) lenP := fun ps z vs F H Q e hx s k => by
  · unfold lenP at e
    split at e
    · obtain ⟨v, rfl, h⟩ := vw1 hx
      obtain ⟨hc, rfl⟩ := if_some e
      cases h.str
      exact ⟨_, _, rfl, ⟨hc, rfl⟩, k _ F H (.int _) (Grow.refl s)⟩
    · obtain ⟨v, rfl, h⟩ := vw1 hx
      cases e
      obtain ⟨a, ws, rfl, h1, h2⟩ := h.lstE s
      exact ⟨_, _, rfl, .inl ⟨_, .inl (.inl h1), rfl⟩, by rw [h2.length]; exact k _ F H (.int _) (Grow.refl s)⟩
    · obtain ⟨v, rfl, h⟩ := vw1 hx
      cases e
      obtain ⟨a, ws, rfl, h1, h2⟩ := h.tupE
      exact ⟨_, _, rfl, .inr ⟨_, same_sqT s h1, rfl⟩, by rw [h2.length]; exact k _ F H (.int _) (Grow.refl s)⟩
    · rename_i ns
      obtain ⟨v, rfl, h⟩ := vw1 hx
      cases e
      obtain ⟨a, rfl, h1⟩ := h.scrE s
      exact ⟨_, ns.length, rfl, .inl ⟨_, h1, by rw [List.length_map]⟩, k _ F H (.int _) (Grow.refl s)⟩
    · cases e
/-! isinstance -/
def tyP : P → String
  | .non => "NoneType"
  | .bl _ => "bool"
  | .int _ => "int"
  | .str _ => "str"
  | .lst _ => "list"
  | .tup _ => "tuple"
  | .dic _ _ _ => "dict"
  | .ins _ _ _ => "?"
  | .glo _ => "?"
  | .ty _ => "?"
  | .scr _ => "list"
def plainP : P → Bool
  | .dic true _ _ => false
  | .ins _ _ _ => false
  | .glo _ => false
  | .ty _ => false
  | .scr _ => false
  | _ => true
theorem rp_tyx {H : Hp} {v : V} {p : P} (h : Rp K H v p) (hp : plainP p = true) : TyX K.K H v (.type (tyP p)) := by
  cases h with
  | non => exact .base .non
  | bl b => exact .base (.bl b)
  | int i => exact .base (.int i)
  | str y => exact .base (.str y)
  | lst h1 _ => exact .base (.lst h1)
  | tup h1 _ => exact .base (.tup h1)
  | tupW h1 _ _ =>
    rcases h1 with (h1 | ⟨o, h1⟩) | ⟨o, its, n, h1, h2, _⟩
    · exact .base (.tup h1)
    · exact .fTuple h1
    · exact .kTuple h1 h2
  | dicK h1 _ _ => exact .base (.dK h1)
  | dicN _ _ _ _ _ => cases hp
  | ins _ _ _ _ => cases hp
  | glo _ => cases hp
  | ty _ => cases hp
  | scr _ => cases hp
def isiP : List P → Option P
  | [p, .ty n] => if plainP p = true then (kitB (tyP p) n).map .bl else none
  | _ => none
theorem cv_isi : CallV K (rIsi K.K) isiP := fun ps z vs F H Q e hx s k => by
  unfold isiP at e
  split at e
  · rename_i p n
    obtain ⟨v, w, rfl, h1, h2⟩ := vw2 hx
    split at e
    · rename_i hp
      cases hk : kitB (tyP p) n with
      | none => rw [hk] at e; cases e
      | some b =>
        rw [hk] at e; cases e
        have hw : w = .ty n := by cases h2 with | p h => cases h; rfl
        subst hw
        exact ⟨v, _, _, _, b, rfl, .ty n, rp_tyx (h1.rd s) hp, kit_ty hk, k _ F H (.bl b) (Grow.refl s)⟩
    · cases e
  · cases e
/-! abs, int, str, max, min -/
def absP : List P → Option P
  | [.int m] => some (.int (if m < 0 then -m else m))
  | _ => none
theorem cv_abs : CallV K (fun xs H Q => ∃ i, xs = [.int i] ∧ Q (.int (if i < 0 then -i else i)) H) absP := fun ps z vs F H Q e hx s k => by
  unfold absP at e
  split at e
  · obtain ⟨v, rfl, h⟩ := vw1 hx
    cases e
    cases h.int
    exact ⟨_, rfl, k _ F H (.int _) (Grow.refl s)⟩
  · cases e
def intP : List P → Option P
  | [.int m] => some (.int m)
  | [.bl b] => some (.int (if b then 1 else 0))
  | [.str z] => if z.length ≤ 640 then (PySem.intText? z).map .int else none
  | _ => none
def rIntZ : List V → Hp → VK → Prop := fun xs H Q => (fun xs H Q => (∃ i, xs = [.int i] ∧ Q (.int i) H) ∨ ∃ k, xs = [.bl k] ∧ Q (.int (if k then 1 else 0)) H) xs H Q ∨ (fun xs H Q => ∃ a n, xs = [.str a] ∧ PySem.intText? a = some n ∧ a.length ≤ 640 ∧ Q (.int n) H) xs H Q
theorem cr_int {X : Cx} : CallR X (.type "int") rIntZ := CallR.or call_int1 call_int_str
theorem cv_int : CallV K rIntZ intP := fun ps z vs F H Q e hx s k => by
  unfold intP at e
  split at e
  · obtain ⟨v, rfl, h⟩ := vw1 hx
    cases e
    cases h.int
    exact .inl (.inl ⟨_, rfl, k _ F H (.int _) (Grow.refl s)⟩)
  · obtain ⟨v, rfl, h⟩ := vw1 hx
    cases e
    cases h.bl
    exact .inl (.inr ⟨_, rfl, k _ F H (.int _) (Grow.refl s)⟩)
  · rename_i y
    obtain ⟨v, rfl, h⟩ := vw1 hx
    cases h.str
    split at e
    · rename_i hl
      cases hi : PySem.intText? y with
      | none => rw [hi] at e; cases e
      | some n =>
        rw [hi] at e; cases e
        exact .inr ⟨y, n, rfl, hi, hl, k _ F H (.int _) (Grow.refl s)⟩
    · cases e
  · cases e
def strP : List P → Option P
  | [.int m] => if m.natAbs.log2 < 1920 then some (.str (toString m)) else none
  | _ => none
theorem cv_str : CallV K (fun xs H Q => ∃ i, xs = [.int i] ∧ i.natAbs.log2 < 1920 ∧ Q (.str (toString i)) H) strP := fun ps z vs F H Q e hx s k => by
  unfold strP at e
  split at e
  · obtain ⟨v, rfl, h⟩ := vw1 hx
    obtain ⟨hc, rfl⟩ := if_some e
    cases h.int
    exact ⟨_, rfl, hc, k _ F H (.str _) (Grow.refl s)⟩
  · cases e
def intsOf : List P → Option (List Int)
  | [] => some []
  | .int n :: ps => (intsOf ps).map (n :: ·)
  | _ => none
theorem intsOf_rp {F : Hp} : ∀ {ps : List P} {ns : List Int} {vs : List V}, intsOf ps = some ns → RpAll K F vs ps → vs = ns.map V.int
  | [], _, _, e, h => by cases e; cases h; rfl
  | p :: ps, ns, _, e, h => by
    cases h with
    | cons h1 h2 =>
      cases p with
      | int n =>
        cases hq : intsOf ps with
        | none => simp only [intsOf, hq] at e; cases e
        | some ms =>
          simp only [intsOf, hq] at e; cases e
          cases h1
          rw [intsOf_rp hq h2]; rfl
      | _ => cases e
def boolsOf : List P → Option (List Bool)
  | [] => some []
  | .bl n :: ps => (boolsOf ps).map (n :: ·)
  | _ => none
theorem boolsOf_rp {F : Hp} : ∀ {ps : List P} {ns : List Bool} {vs : List V}, boolsOf ps = some ns → RpAll K F vs ps → vs = ns.map V.bl
  | [], _, _, e, h => by cases e; cases h; rfl
  | p :: ps, ns, _, e, h => by
    cases h with
    | cons h1 h2 =>
      cases p with
      | bl n =>
        cases hq : boolsOf ps with
        | none => simp only [boolsOf, hq] at e; cases e
        | some ms =>
          simp only [boolsOf, hq] at e; cases e
          cases h1
          rw [boolsOf_rp hq h2]; rfl
      | _ => cases e
def maxL : List Int → Option Int
  | [] => none
  | n :: ns => some (ns.foldl max n)
def minL : List Int → Option Int
  | [] => none
  | n :: ns => some (ns.foldl min n)
theorem foldl_max_spec : ∀ (ns : List Int) (n : Int), (ns.foldl max n = n ∨ ns.foldl max n ∈ ns) ∧ n ≤ ns.foldl max n ∧ ∀ y ∈ ns, y ≤ ns.foldl max n
  | [], n => ⟨.inl rfl, Int.le_refl _, fun _ h => by cases h⟩
  | m :: ns, n => by
    obtain ⟨h1, h2, h3⟩ := foldl_max_spec ns (max n m)
    rw [List.foldl_cons]
    refine ⟨?_, by omega, fun y hy => ?_⟩
    · rcases h1 with h1 | h1
      · rw [h1]
        by_cases h : n ≤ m
        · right; rw [show max n m = m by omega]; exact List.mem_cons_self ..
        · left; omega
      · right; exact List.mem_cons_of_mem _ h1
    · rcases List.mem_cons.mp hy with rfl | hy
      · omega
      · exact h3 y hy
theorem foldl_min_spec : ∀ (ns : List Int) (n : Int), (ns.foldl min n = n ∨ ns.foldl min n ∈ ns) ∧ ns.foldl min n ≤ n ∧ ∀ y ∈ ns, ns.foldl min n ≤ y
  | [], n => ⟨.inl rfl, Int.le_refl _, fun _ h => by cases h⟩
  | m :: ns, n => by
    obtain ⟨h1, h2, h3⟩ := foldl_min_spec ns (min n m)
    rw [List.foldl_cons]
    refine ⟨?_, by omega, fun y hy => ?_⟩
    · rcases h1 with h1 | h1
      · rw [h1]
        by_cases h : m ≤ n
        · right; rw [show min n m = m by omega]; exact List.mem_cons_self ..
        · left; omega
      · right; exact List.mem_cons_of_mem _ h1
    · rcases List.mem_cons.mp hy with rfl | hy
      · omega
      · exact h3 y hy
def maxP : List P → Option P
  | [.int m, .int n] => some (.int (if n > m then n else m))
  | [.lst ps] => match intsOf ps with
    | some ns => (maxL ns).map .int
    | none => none
  | _ => none
def minP : List P → Option P
  | [.int m, .int n] => some (.int (if n < m then n else m))
  | [.lst ps] => match intsOf ps with
    | some ns => (minL ns).map .int
    | none => none
  | _ => none
def rMaxZ (K : PySem.W.Frag) : List V → Hp → VK → Prop := fun xs H Q => (fun xs H Q => ∃ i j, xs = [.int i, .int j] ∧ Q (.int (if j > i then j else i)) H) xs H Q ∨ rMax K xs H Q
def rMinZ (K : PySem.W.Frag) : List V → Hp → VK → Prop := fun xs H Q => (fun xs H Q => ∃ i j, xs = [.int i, .int j] ∧ Q (.int (if j < i then j else i)) H) xs H Q ∨ rMin K xs H Q
theorem cr_maxZ {X : Cx} (hc : X.calm = true) : CallR X (.builtin "max") (rMaxZ X.K) := CallR.or (call_max2 hc) (cr_max hc)
theorem cr_minZ {X : Cx} (hc : X.calm = true) : CallR X (.builtin "min") (rMinZ X.K) := CallR.or (call_min2 hc) (cr_min hc)
theorem cv_max : CallV K (rMaxZ K.K) maxP := fun ps z vs F H Q e hx s k => by
  unfold maxP at e
  split at e
  · obtain ⟨v, w, rfl, h1, h2⟩ := vw2 hx
    cases e; cases h1.int; cases h2.int
    exact .inl ⟨_, _, rfl, k _ F H (.int _) (Grow.refl s)⟩
  · rename_i ps
    obtain ⟨v, rfl, h⟩ := vw1 hx
    cases hi : intsOf ps with
    | none => rw [hi] at e; cases e
    | some ns =>
      rw [hi] at e
      obtain ⟨a, ws, rfl, h1, h2⟩ := h.lstE s
      have := intsOf_rp hi h2
      subst this
      cases ns with
      | nil => cases e
      | cons n ns =>
        cases e
        obtain ⟨q1, q2, q3⟩ := foldl_max_spec ns n
        refine .inr ⟨a, n :: ns, rfl, .inl (.inl h1), by simp, fun m hm hall => ?_⟩
        have e1 : m = ns.foldl max n := by
          have a1 : ns.foldl max n ≤ m := by
            rcases q1 with q1 | q1
            · rw [q1]; exact hall n (List.mem_cons_self ..)
            · exact hall _ (List.mem_cons_of_mem _ q1)
          rcases List.mem_cons.mp hm with rfl | hm
          · omega
          · have := q3 m hm; omega
        rw [e1]
        exact k _ F H (.int _) (Grow.refl s)
  · cases e
theorem cv_min : CallV K (rMinZ K.K) minP := fun ps z vs F H Q e hx s k => by
  unfold minP at e
  split at e
  · obtain ⟨v, w, rfl, h1, h2⟩ := vw2 hx
    cases e; cases h1.int; cases h2.int
    exact .inl ⟨_, _, rfl, k _ F H (.int _) (Grow.refl s)⟩
  · rename_i ps
    obtain ⟨v, rfl, h⟩ := vw1 hx
    cases hi : intsOf ps with
    | none => rw [hi] at e; cases e
    | some ns =>
      rw [hi] at e
      obtain ⟨a, ws, rfl, h1, h2⟩ := h.lstE s
      have := intsOf_rp hi h2
      subst this
      cases ns with
      | nil => cases e
      | cons n ns =>
        cases e
        obtain ⟨q1, q2, q3⟩ := foldl_min_spec ns n
        refine .inr ⟨a, n :: ns, rfl, .inl (.inl h1), by simp, fun m hm hall => ?_⟩
        have e1 : m = ns.foldl min n := by
          have a1 : m ≤ ns.foldl min n := by
            rcases q1 with q1 | q1
            · rw [q1]; exact hall n (List.mem_cons_self ..)
            · exact hall _ (List.mem_cons_of_mem _ q1)
          rcases List.mem_cons.mp hm with rfl | hm
          · omega
          · have := q3 m hm; omega
        rw [e1]
        exact k _ F H (.int _) (Grow.refl s)
  · cases e
/-! all, any, sum, tuple, list -/
def allP : List P → Option P
  | [.lst ps] => (boolsOf ps).map fun bs => .bl (bs.all id)
  | _ => none
def anyP : List P → Option P
  | [.lst ps] => (boolsOf ps).map fun bs => .bl (bs.any id)
  | _ => none
def sumP : List P → Option P
  | [.lst ps] => (intsOf ps).map fun ns => .int ns.sum
  | _ => none
theorem cv_all : CallV K (rAll K.K) allP := fun ps z vs F H Q e hx s k => by
  unfold allP at e
  split at e
  · rename_i ps
    obtain ⟨v, rfl, h⟩ := vw1 hx
    cases hi : boolsOf ps with
    | none => rw [hi] at e; cases e
    | some ns =>
      rw [hi] at e; cases e
      obtain ⟨a, ws, rfl, h1, h2⟩ := h.lstE s
      have := boolsOf_rp hi h2
      subst this
      exact ⟨a, ns, rfl, .inl (.inl h1), k _ F H (.bl _) (Grow.refl s)⟩
  · cases e
theorem cv_any : CallV K (rAny K.K) anyP := fun ps z vs F H Q e hx s k => by
  unfold anyP at e
  split at e
  · rename_i ps
    obtain ⟨v, rfl, h⟩ := vw1 hx
    cases hi : boolsOf ps with
    | none => rw [hi] at e; cases e
    | some ns =>
      rw [hi] at e; cases e
      obtain ⟨a, ws, rfl, h1, h2⟩ := h.lstE s
      have := boolsOf_rp hi h2
      subst this
      exact ⟨a, ns, rfl, .inl (.inl h1), k _ F H (.bl _) (Grow.refl s)⟩
  · cases e
theorem cv_sum : CallV K (rSum K.K) sumP := fun ps z vs F H Q e hx s k => by
  unfold sumP at e
  split at e
  · rename_i ps
    obtain ⟨v, rfl, h⟩ := vw1 hx
    cases hi : intsOf ps with
    | none => rw [hi] at e; cases e
    | some ns =>
      rw [hi] at e; cases e
      obtain ⟨a, ws, rfl, h1, h2⟩ := h.lstE s
      have := intsOf_rp hi h2
      subst this
      exact ⟨a, ns, rfl, .inl (.inl h1), k _ F H (.int _) (Grow.refl s)⟩
  · cases e
def tupleP : List P → Option P
  | [.lst ps] => some (.tup ps)
  | [.tup ps] => some (.tup ps)
  | _ => none
theorem cv_tuple : CallV K (fun xs H Q => ∃ p ys, xs = [.ref p] ∧ ((SqL K.K H p ys ∧ ∀ l, H l = none → Q (.ref l) (upd H l (.tup ys))) ∨ (SqT K.K H p ys ∧ Q (.ref p) H))) tupleP := fun ps z vs F H Q e hx s k => by
  unfold tupleP at e
  split at e
  · obtain ⟨v, rfl, h⟩ := vw1 hx
    cases e
    obtain ⟨a, ws, rfl, h1, h2⟩ := h.lstE s
    refine ⟨a, ws, rfl, .inl ⟨.inl (.inl h1), fun l hl => ?_⟩⟩
    have g := Grow.new (o := .tup ws) s hl
    exact k _ _ _ (.tup upd_same (RpAll.mono g.sF _ _ h2)) g
  · obtain ⟨v, rfl, h⟩ := vw1 hx
    cases e
    have hp := h.tupP
    obtain ⟨a, ws, rfl, h1, h2⟩ := h.tupE
    exact ⟨a, ws, rfl, .inr ⟨same_sqT s h1, k _ F H hp (Grow.refl s)⟩⟩
  · cases e
def listP : List P → Option P
  | [.lst ps] => some (.lst ps)
  | [.tup ps] => some (.lst ps)
  | [.scr ns] => some (.lst (ns.map .int))
  | _ => none
theorem cv_list : CallV K (fun xs H Q => ∃ p ys, xs = [.ref p] ∧ (SqL K.K H p ys ∨ SqT K.K H p ys) ∧ ∀ l, H l = none → Q (.ref l) (upd H l (.lst ys))) listP := fun ps z vs F H Q e hx s k => by
  unfold listP at e
  split at e
  · obtain ⟨v, rfl, h⟩ := vw1 hx
    cases e
    obtain ⟨a, ws, rfl, h1, h2⟩ := h.lstE s
    refine ⟨a, ws, rfl, .inl (.inl (.inl h1)), fun l hl => ?_⟩
    have g := Grow.new (o := .lst ws) s hl
    exact k _ _ _ (.lst upd_same (RpAll.mono g.sF _ _ h2)) g
  · obtain ⟨v, rfl, h⟩ := vw1 hx
    cases e
    obtain ⟨a, ws, rfl, h1, h2⟩ := h.tupE
    refine ⟨a, ws, rfl, .inr (same_sqT s h1), fun l hl => ?_⟩
    have g := Grow.new (o := .lst ws) s hl
    exact k _ _ _ (.lst upd_same (RpAll.mono g.sF _ _ h2)) g
  · obtain ⟨v, rfl, h⟩ := vw1 hx
    cases e
    obtain ⟨a, rfl, h1⟩ := h.scrE s
    refine ⟨a, _, rfl, .inl h1, fun l hl => ?_⟩
    exact k _ _ _ (.lst upd_same (rp_ints _)) (Grow.new s hl)
  · cases e
end
section
variable {C : Kx} {a b e : Expr} {es : List Expr} {pos p : Pos} {ma : MA}
abbrev Se (C : Kx) (e : Expr) (es : List Expr) : Prop := starEach (e :: es) C.X.env = (false, eval e C.X.env) :: starEach es C.X.env
abbrev Pl (C : Kx) (es : List Expr) (pos : Pos) : Prop := (backTo pos (starEach es C.X.env)).any (·.1) = false
theorem ej_len (hm : C.X.mg "len" = none) (h : Aj C ma (e :: es)) (hg : Gl C.X "len" := by rfl) (he : Se C e es := by exact se_of rfl) (hpl : Pl C es pos := by exact pl_of rfl) : Ej C (eF lenP ma) (.Call (.Name "len" p) (e :: es) [] pos) := ej_callB call_len cv_len hm boot_len h hg (he := he) (hpl := hpl)
theorem ej_isi (hm : C.X.mg "isinstance" = none) (h : Aj C ma (e :: es)) (hg : Gl C.X "isinstance" := by rfl) (he : Se C e es := by exact se_of rfl) (hpl : Pl C es pos := by exact pl_of rfl) : Ej C (eF isiP ma) (.Call (.Name "isinstance" p) (e :: es) [] pos) := ej_callB call_isi cv_isi hm (by decide +kernel) h hg (he := he) (hpl := hpl)
theorem ej_abs (hm : C.X.mg "abs" = none) (h : Aj C ma (e :: es)) (hg : Gl C.X "abs" := by rfl) (he : Se C e es := by exact se_of rfl) (hpl : Pl C es pos := by exact pl_of rfl) : Ej C (eF absP ma) (.Call (.Name "abs" p) (e :: es) [] pos) := ej_callB call_abs cv_abs hm (by decide +kernel) h hg (he := he) (hpl := hpl)
theorem ej_max (hc : C.X.calm = true) (hm : C.X.mg "max" = none) (h : Aj C ma (e :: es)) (hg : Gl C.X "max" := by rfl) (he : Se C e es := by exact se_of rfl) (hpl : Pl C es pos := by exact pl_of rfl) : Ej C (eF maxP ma) (.Call (.Name "max" p) (e :: es) [] pos) := ej_callB (cr_maxZ hc) cv_max hm (by decide +kernel) h hg (he := he) (hpl := hpl)
theorem ej_min (hc : C.X.calm = true) (hm : C.X.mg "min" = none) (h : Aj C ma (e :: es)) (hg : Gl C.X "min" := by rfl) (he : Se C e es := by exact se_of rfl) (hpl : Pl C es pos := by exact pl_of rfl) : Ej C (eF minP ma) (.Call (.Name "min" p) (e :: es) [] pos) := ej_callB (cr_minZ hc) cv_min hm (by decide +kernel) h hg (he := he) (hpl := hpl)
theorem ej_all (hc : C.X.calm = true) (hm : C.X.mg "all" = none) (h : Aj C ma (e :: es)) (hg : Gl C.X "all" := by rfl) (he : Se C e es := by exact se_of rfl) (hpl : Pl C es pos := by exact pl_of rfl) : Ej C (eF allP ma) (.Call (.Name "all" p) (e :: es) [] pos) := ej_callB (cr_all hc) cv_all hm (by decide +kernel) h hg (he := he) (hpl := hpl)
theorem ej_any (hc : C.X.calm = true) (hm : C.X.mg "any" = none) (h : Aj C ma (e :: es)) (hg : Gl C.X "any" := by rfl) (he : Se C e es := by exact se_of rfl) (hpl : Pl C es pos := by exact pl_of rfl) : Ej C (eF anyP ma) (.Call (.Name "any" p) (e :: es) [] pos) := ej_callB (cr_any hc) cv_any hm (by decide +kernel) h hg (he := he) (hpl := hpl)
theorem ej_sum (hc : C.X.calm = true) (hm : C.X.mg "sum" = none) (h : Aj C ma (e :: es)) (hg : Gl C.X "sum" := by rfl) (he : Se C e es := by exact se_of rfl) (hpl : Pl C es pos := by exact pl_of rfl) : Ej C (eF sumP ma) (.Call (.Name "sum" p) (e :: es) [] pos) := ej_callB (cr_sum hc) cv_sum hm (by decide +kernel) h hg (he := he) (hpl := hpl)
theorem ej_intC (hm : C.X.mg "int" = none) (h : Aj C ma (e :: es)) (hg : Gl C.X "int" := by rfl) (he : Se C e es := by exact se_of rfl) (hpl : Pl C es pos := by exact pl_of rfl) : Ej C (eF intP ma) (.Call (.Name "int" p) (e :: es) [] pos) := ej_callTy cr_int cv_int hm boot_int h hg (he := he) (hpl := hpl)
theorem ej_strC (hm : C.X.mg "str" = none) (h : Aj C ma (e :: es)) (hg : Gl C.X "str" := by rfl) (he : Se C e es := by exact se_of rfl) (hpl : Pl C es pos := by exact pl_of rfl) : Ej C (eF strP ma) (.Call (.Name "str" p) (e :: es) [] pos) := ej_callTy call_str_int cv_str hm (by decide +kernel) h hg (he := he) (hpl := hpl)
theorem ej_tupleC (hm : C.X.mg "tuple" = none) (h : Aj C ma (e :: es)) (hg : Gl C.X "tuple" := by rfl) (he : Se C e es := by exact se_of rfl) (hpl : Pl C es pos := by exact pl_of rfl) : Ej C (eF tupleP ma) (.Call (.Name "tuple" p) (e :: es) [] pos) := ej_callTy call_tuple_of cv_tuple hm (by decide +kernel) h hg (he := he) (hpl := hpl)
theorem ej_listC (hm : C.X.mg "list" = none) (h : Aj C ma (e :: es)) (hg : Gl C.X "list" := by rfl) (he : Se C e es := by exact se_of rfl) (hpl : Pl C es pos := by exact pl_of rfl) : Ej C (eF listP ma) (.Call (.Name "list" p) (e :: es) [] pos) := ej_callTy call_list_of cv_list hm (by decide +kernel) h hg (he := he) (hpl := hpl)
end
end Z

namespace Z
open PySem PySem.Spec PyProof.Rows L2
section
variable {C : Kx} {a b c d e tg iter : Expr} {es : List Expr} {pos p : Pos} {x y z u : Str} {ma : MA} {m me : M} {K : Fr}
/-! ### a, b = .., .. -/
def setAll (sl : Slots) : List Nat → List D → Slots
  | j :: js, d :: ds => setAll (sl.set j (some d)) js ds
  | _, _ => sl
def sPar (js : List Nat) (ma : MA) : MS := fun sl S => (ma sl S).st sl fun ds S1 => if ds.length = js.length then .nx (setAll sl js ds) S1 else .no
theorem rel2 {F : Hp} {R : List Addr} {vs : List V} {ds : List D} (h : RelAll K F R vs ds) (hl : ds.length = 2) : ∃ v w d e, vs = [v, w] ∧ ds = [d, e] ∧ RelD K F R v d ∧ RelD K F R w e := by
  cases h with
  | nil => cases hl
  | cons h t =>
    cases t with
    | nil => cases hl
    | cons h2 t =>
      cases t with
      | nil => exact ⟨_, _, _, _, rfl, rfl, h, h2⟩
      | cons h3 t => simp at hl
theorem rel3 {F : Hp} {R : List Addr} {vs : List V} {ds : List D} (h : RelAll K F R vs ds) (hl : ds.length = 3) : ∃ v w u d e f, vs = [v, w, u] ∧ ds = [d, e, f] ∧ RelD K F R v d ∧ RelD K F R w e ∧ RelD K F R u f := by
  cases h with
  | nil => cases hl
  | cons h t =>
    obtain ⟨w, u, e, f, rfl, rfl, h2, h3⟩ := rel2 t (by simpa using hl)
    exact ⟨_, _, _, _, _, _, rfl, rfl, h, h2, h3⟩
theorem rel4 {F : Hp} {R : List Addr} {vs : List V} {ds : List D} (h : RelAll K F R vs ds) (hl : ds.length = 4) : ∃ v w u t d e f g, vs = [v, w, u, t] ∧ ds = [d, e, f, g] ∧ RelD K F R v d ∧ RelD K F R w e ∧ RelD K F R u f ∧ RelD K F R t g := by
  cases h with
  | nil => cases hl
  | cons h t =>
    obtain ⟨w, u, s, e, f, g, rfl, rfl, h2, h3, h4⟩ := rel3 t (by simpa using hl)
    exact ⟨_, _, _, _, _, _, _, _, rfl, rfl, h, h2, h3, h4⟩
abbrev Lo (C : Kx) (x : Str) : Prop := C.X.env.scope.names.lookup x = some .local
theorem sj_par2 (i j : Nat) {px py pt : Pos} {kt k2 pt2} (hc : C.X.calm = true) (hN : C.X.N.Nodup) (h : Aj C ma [a, b]) (hi : C.X.N[i]? = some x := by rfl) (hj : C.X.N[j]? = some y := by rfl) (hij : i ≠ j := by decide) (hx : Lo C x := by rfl) (hy : Lo C y := by rfl)
    (hw : swappedStores [.Tuple [.Name x px, .Name y py] kt pt] (.Tuple [a, b] k2 pt2) C.X.env = pure (some [x, y]) := by rfl)
    (hs' : swapsWithSole [.Tuple [.Name x px, .Name y py] kt pt] (.Tuple [a, b] k2 pt2) pos.line C.X.env = pure false := by rfl) : Sj1 C (sPar [i, j] ma) (.Assign [.Tuple [.Name x px, .Name y py] kt pt] (.Tuple [a, b] k2 pt2) pos) := .mk fun sl S σ F R H hs hr D post =>
  SD1.of (ps_par hc hN hi hj hij hx hy pa_d hw hs') (h sl S σ F R H hs hr _ (PostS.bind post hs fun ds S1 vs F1 R1 H1 _ rx rep1 s1 r1 hs1 post1 => by
    by_cases hl : ds.length = 2
    · have post1 := (if_pos (c := ds.length = [i, j].length) hl) ▸ post1
      obtain ⟨v, w, d, e, rfl, rfl, h1, h2⟩ := rel2 rx hl
      exact ⟨v, w, rfl, post1 _ F1 R1 H1 ((hs1.set h1).set h2) rep1 (Same.refl _) pre_refl⟩
    · have post1 := (if_neg (c := ds.length = [i, j].length) hl) ▸ post1
      exact post1.elim))
theorem sj_par3 (i j l : Nat) {px py pz pt : Pos} {kt k2 pt2} (hc : C.X.calm = true) (hN : C.X.N.Nodup) (h : Aj C ma [a, b, c]) (hi : C.X.N[i]? = some x := by rfl) (hj : C.X.N[j]? = some y := by rfl) (hk : C.X.N[l]? = some z := by rfl) (hij : i ≠ j := by decide) (hil : i ≠ l := by decide) (hjl : j ≠ l := by decide) (hx : Lo C x := by rfl) (hy : Lo C y := by rfl) (hz : Lo C z := by rfl)
    (hw : swappedStores [.Tuple [.Name x px, .Name y py, .Name z pz] kt pt] (.Tuple [a, b, c] k2 pt2) C.X.env = pure (some [x, y, z]) := by rfl)
    (hs' : swapsWithSole [.Tuple [.Name x px, .Name y py, .Name z pz] kt pt] (.Tuple [a, b, c] k2 pt2) pos.line C.X.env = pure false := by rfl) : Sj1 C (sPar [i, j, l] ma) (.Assign [.Tuple [.Name x px, .Name y py, .Name z pz] kt pt] (.Tuple [a, b, c] k2 pt2) pos) := .mk fun sl S σ F R H hs hr D post =>
  SD1.of (ps_par3 hc hN hi hj hk hij hil hjl hx hy hz pa_d hw hs') (h sl S σ F R H hs hr _ (PostS.bind post hs fun ds S1 vs F1 R1 H1 _ rx rep1 s1 r1 hs1 post1 => by
    by_cases hl : ds.length = 3
    · have post1 := (if_pos (c := ds.length = [i, j, l].length) hl) ▸ post1
      obtain ⟨v, w, u, d, e, f, rfl, rfl, h1, h2, h3⟩ := rel3 rx hl
      exact ⟨v, w, u, rfl, post1 _ F1 R1 H1 (((hs1.set h1).set h2).set h3) rep1 (Same.refl _) pre_refl⟩
    · have post1 := (if_neg (c := ds.length = [i, j, l].length) hl) ▸ post1
      exact post1.elim))
/-- through a tuple that nobody keeps: any names -/
theorem Rep.own {G F H : Hp} {R : List Addr} {S : Store} {q : Addr} {o : HO} (h : Rep K G F R S H) (n : H q = none) : Rep K G F R S (upd H q o) := h.grow (Grow.own h.sub n)
abbrev Fl' (C : Kx) (x : Str) : Prop := C.X.fn x = true ∨ C.X.env.scope.names.lookup x = some .local
theorem sj_parT2 (i j : Nat) {px py pt : Pos} {kt k2 pt2} (hc : C.X.calm = true) (hN : C.X.N.Nodup) (h : Aj C ma [a, b]) (hi : C.X.N[i]? = some x := by rfl) (hj : C.X.N[j]? = some y := by rfl) (hx : Loc C.X.env.scope x := by first | exact Or.inl rfl | exact Or.inr rfl) (hy : Loc C.X.env.scope y := by first | exact Or.inl rfl | exact Or.inr rfl)
    (fx : Fl' C x := by first | exact .inl rfl | exact .inr rfl) (fy : Fl' C y := by first | exact .inl rfl | exact .inr rfl) (hw : swappedStores [.Tuple [.Name x px, .Name y py] kt pt] (.Tuple [a, b] k2 pt2) C.X.env = pure none := by rfl)
    (hs' : swapsWithSole [.Tuple [.Name x px, .Name y py] kt pt] (.Tuple [a, b] k2 pt2) pos.line C.X.env = pure false := by rfl) : Sj1 C (sPar [i, j] ma) (.Assign [.Tuple [.Name x px, .Name y py] kt pt] (.Tuple [a, b] k2 pt2) pos) := .mk fun sl S σ F R H hs hr D post =>
  SD1.of (ps_asg (pe_tup pa_d) (pg_tup hc (pgs_cons (pg_name hN hi hx fx) (pgs_cons (pg_name hN hj hy fy) pgs_nil))) hs' hw) (h sl S σ F R H hs hr _ (PostS.bind post hs fun ds S1 vs F1 R1 H1 _ rx rep1 s1 r1 hs1 post1 => by
    by_cases hl : ds.length = 2
    · have post1 := (if_pos (c := ds.length = [i, j].length) hl) ▸ post1
      obtain ⟨v, w, d, e, rfl, rfl, h1, h2⟩ := rel2 rx hl
      refine ⟨by show 2 ≤ sizeLine; decide, fun p hp => ⟨p, [v, w], rfl, .inl (.inl upd_same), rfl, v, _, rfl, w, _, rfl, rfl, ?_⟩⟩
      exact post1 _ F1 R1 _ ((hs1.set h1).set h2) (rep1.own hp) (Same.refl _) pre_refl
    · have post1 := (if_neg (c := ds.length = [i, j].length) hl) ▸ post1
      exact post1.elim))
theorem sj_parT3 (i j l : Nat) {px py pz pt : Pos} {kt k2 pt2} (hc : C.X.calm = true) (hN : C.X.N.Nodup) (h : Aj C ma [a, b, c]) (hi : C.X.N[i]? = some x := by rfl) (hj : C.X.N[j]? = some y := by rfl) (hk : C.X.N[l]? = some z := by rfl) (hx : Loc C.X.env.scope x := by first | exact Or.inl rfl | exact Or.inr rfl) (hy : Loc C.X.env.scope y := by first | exact Or.inl rfl | exact Or.inr rfl) (hz : Loc C.X.env.scope z := by first | exact Or.inl rfl | exact Or.inr rfl)
    (fx : Fl' C x := by first | exact .inl rfl | exact .inr rfl) (fy : Fl' C y := by first | exact .inl rfl | exact .inr rfl) (fz : Fl' C z := by first | exact .inl rfl | exact .inr rfl) (hw : swappedStores [.Tuple [.Name x px, .Name y py, .Name z pz] kt pt] (.Tuple [a, b, c] k2 pt2) C.X.env = pure none := by rfl)
    (hs' : swapsWithSole [.Tuple [.Name x px, .Name y py, .Name z pz] kt pt] (.Tuple [a, b, c] k2 pt2) pos.line C.X.env = pure false := by rfl) : Sj1 C (sPar [i, j, l] ma) (.Assign [.Tuple [.Name x px, .Name y py, .Name z pz] kt pt] (.Tuple [a, b, c] k2 pt2) pos) := .mk fun sl S σ F R H hs hr D post =>
  SD1.of (ps_asg (pe_tup pa_d) (pg_tup hc (pgs_cons (pg_name hN hi hx fx) (pgs_cons (pg_name hN hj hy fy) (pgs_cons (pg_name hN hk hz fz) pgs_nil)))) hs' hw) (h sl S σ F R H hs hr _ (PostS.bind post hs fun ds S1 vs F1 R1 H1 _ rx rep1 s1 r1 hs1 post1 => by
    by_cases hl : ds.length = 3
    · have post1 := (if_pos (c := ds.length = [i, j, l].length) hl) ▸ post1
      obtain ⟨v, w, u, d, e, f, rfl, rfl, h1, h2, h3⟩ := rel3 rx hl
      refine ⟨by show 3 ≤ sizeLine; decide, fun p hp => ⟨p, [v, w, u], rfl, .inl (.inl upd_same), rfl, v, _, rfl, w, _, rfl, u, _, rfl, rfl, ?_⟩⟩
      exact post1 _ F1 R1 _ (((hs1.set h1).set h2).set h3) (rep1.own hp) (Same.refl _) pre_refl
    · have post1 := (if_neg (c := ds.length = [i, j, l].length) hl) ▸ post1
      exact post1.elim))
theorem sj_parT4 (i j l n : Nat) {px py pz pu pt : Pos} {kt k2 pt2} (hc : C.X.calm = true) (hN : C.X.N.Nodup) (h : Aj C ma [a, b, c, d]) (hi : C.X.N[i]? = some x := by rfl) (hj : C.X.N[j]? = some y := by rfl) (hk : C.X.N[l]? = some z := by rfl) (hn : C.X.N[n]? = some u := by rfl) (hx : Loc C.X.env.scope x := by first | exact Or.inl rfl | exact Or.inr rfl) (hy : Loc C.X.env.scope y := by first | exact Or.inl rfl | exact Or.inr rfl) (hz : Loc C.X.env.scope z := by first | exact Or.inl rfl | exact Or.inr rfl) (hu : Loc C.X.env.scope u := by first | exact Or.inl rfl | exact Or.inr rfl)
    (fx : Fl' C x := by first | exact .inl rfl | exact .inr rfl) (fy : Fl' C y := by first | exact .inl rfl | exact .inr rfl) (fz : Fl' C z := by first | exact .inl rfl | exact .inr rfl) (fu : Fl' C u := by first | exact .inl rfl | exact .inr rfl) (hw : swappedStores [.Tuple [.Name x px, .Name y py, .Name z pz, .Name u pu] kt pt] (.Tuple [a, b, c, d] k2 pt2) C.X.env = pure none := by rfl)
    (hs' : swapsWithSole [.Tuple [.Name x px, .Name y py, .Name z pz, .Name u pu] kt pt] (.Tuple [a, b, c, d] k2 pt2) pos.line C.X.env = pure false := by rfl) : Sj1 C (sPar [i, j, l, n] ma) (.Assign [.Tuple [.Name x px, .Name y py, .Name z pz, .Name u pu] kt pt] (.Tuple [a, b, c, d] k2 pt2) pos) := .mk fun sl S σ F R H hs hr D post =>
  SD1.of (ps_asg (pe_tup pa_d) (pg_tup hc (pgs_cons (pg_name hN hi hx fx) (pgs_cons (pg_name hN hj hy fy) (pgs_cons (pg_name hN hk hz fz) (pgs_cons (pg_name hN hn hu fu) pgs_nil))))) hs' hw) (h sl S σ F R H hs hr _ (PostS.bind post hs fun ds S1 vs F1 R1 H1 _ rx rep1 s1 r1 hs1 post1 => by
    by_cases hl : ds.length = 4
    · have post1 := (if_pos (c := ds.length = [i, j, l, n].length) hl) ▸ post1
      obtain ⟨v, w, u, t, d, e, f, g, rfl, rfl, h1, h2, h3, h4⟩ := rel4 rx hl
      refine ⟨by show 4 ≤ sizeLine; decide, fun p hp => ⟨p, [v, w, u, t], rfl, .inl (.inl upd_same), rfl, v, _, rfl, w, _, rfl, u, _, rfl, t, _, rfl, rfl, ?_⟩⟩
      exact post1 _ F1 R1 _ ((((hs1.set h1).set h2).set h3).set h4) (rep1.own hp) (Same.refl _) pre_refl
    · have post1 := (if_neg (c := ds.length = [i, j, l, n].length) hl) ▸ post1
      exact post1.elim))
/-! a < b < c as a test -/
theorem tj_of {m : M} {t : TE} (hp : PT C.X e (tTest t)) (h : ∀ sl S σ F R H, SlR C.K F R σ sl → Rep C.K C.G F R S H → ∀ Q : VK, Post C σ F R (RelD C.K) Q (m sl S) → t σ H Q) : Tj C (fun sl S => (m sl S).bind asB) e := .mk fun sl S σ F R H hs hr Q post => by
  have post' : Post C σ F R (RelD C.K) (fun x H' => ∃ k, x = .bl k ∧ Q k H') (m sl S) := Post.bind post fun d S1 x F1 R1 H1 _ rx rep1 s1 r1 post1 => by
    cases d with
    | ref n => exact post1.elim
    | p q =>
      cases q <;> first | exact post1.elim | skip
      cases rx
      exact ⟨_, rfl, post1.okv rfl rep1⟩
  exact TD.of hp (h sl S σ F R H hs hr _ post')
def tCh (f g : Int → Int → Bool) (m1 m2 m3 : M) : MT := fun sl S => (eCh f g m1 m2 m3 sl S).bind asB
theorem tj_chain {op op' : CmpOp} {f g : Int → Int → Bool} {m1 m2 m3 : M} (ho : OpR C.X (compareOp op) (rI0 fun i j => .bl (f i j))) (ho' : OpR C.X (compareOp op') (rI0 fun i j => .bl (g i j))) (h1 : Ej C m1 a) (h2 : Ej C m2 b) (h3 : Ej C m3 c)
    (hm : lastMarks [op, op'] [b, c] = false := by with_unfolding_all rfl) : Tj C (tCh f g m1 m2 m3) (.Compare a [op, op'] [b, c] pos) := tj_of (pt_chain ho ho' pe_d pe_d pe_d hm) fun sl S σ F R H hs hr Q post =>
  h1 sl S σ F R H hs hr _ (Post.bind post fun d1 S1 x F1 R1 H1 _ rx rep1 s1 r1 post1 => h2 sl S1 σ F1 R1 H1 (hs.mono s1 r1) rep1 _ (Post.bind post1 fun d2 S2 y F2 R2 H2 _ ry rep2 s2 r2 post2 => by
    obtain ⟨i, rfl, post2⟩ := asI_post (rx.mono s2 r2) rep2 post2
    obtain ⟨j, rfl, post2⟩ := asI_post ry rep2 post2
    refine ⟨i, j, rfl, rfl, f i j, rfl, ?_⟩
    cases hf : f i j with
    | false =>
      rw [hf] at post2
      show Q (.bl false) H2
      exact Post.okv (show Post C σ F2 R2 (RelD C.K) Q (.ok (.p (.bl false)) S2) from post2) (show RelD C.K F2 R2 (.bl false) (.p (.bl false)) from .bl _) rep2
    | true =>
      rw [hf] at post2
      show ED C.X c σ H2 _
      have post2 : Post C σ F2 R2 (RelD C.K) Q ((m3 sl S2).bind fun d3 S3 => (asI S3 d3).bind fun k S3 => .ok (.p (.bl (g j k))) S3) := post2
      refine h3 sl S2 σ F2 R2 H2 ((hs.mono s1 r1).mono s2 r2) rep2 _ (Post.bind post2 fun d3 S3 z F3 R3 H3 _ rz rep3 s3 r3 post3 => ?_)
      obtain ⟨k, rfl, post3⟩ := asI_post rz rep3 post3
      exact ⟨j, k, rfl, rfl, post3.okv (show RelD C.K F3 R3 (.bl (g j k)) (.p (.bl (g j k))) from .bl _) rep3⟩))
theorem tj_lele {m1 m2 m3 : M} (h1 : Ej C m1 a) (h2 : Ej C m2 b) (h3 : Ej C m3 c) (hm : lastMarks [.LtE, .LtE] [b, c] = false := by with_unfolding_all rfl) : Tj C (tCh (fun i j => decide (i ≤ j)) (fun i j => decide (i ≤ j)) m1 m2 m3) (.Compare a [.LtE, .LtE] [b, c] pos) := tj_chain op_le op_le h1 h2 h3 hm
theorem tj_lelt {m1 m2 m3 : M} (h1 : Ej C m1 a) (h2 : Ej C m2 b) (h3 : Ej C m3 c) (hm : lastMarks [.LtE, .Lt] [b, c] = false := by with_unfolding_all rfl) : Tj C (tCh (fun i j => decide (i ≤ j)) (fun i j => decide (i < j)) m1 m2 m3) (.Compare a [.LtE, .Lt] [b, c] pos) := tj_chain op_le op_lt h1 h2 h3 hm
theorem tj_ltlt {m1 m2 m3 : M} (h1 : Ej C m1 a) (h2 : Ej C m2 b) (h3 : Ej C m3 c) (hm : lastMarks [.Lt, .Lt] [b, c] = false := by with_unfolding_all rfl) : Tj C (tCh (fun i j => decide (i < j)) (fun i j => decide (i < j)) m1 m2 m3) (.Compare a [.Lt, .Lt] [b, c] pos) := tj_chain op_lt op_lt h1 h2 h3 hm
/-! ### x op= e -/
def sAug (i : Nat) (f : P → P → Option P) (m : M) : MS := fun sl S => match sl[i]? with
  | some (some d) => (m sl S).st sl fun e S1 => match lift2 f d e S1 with
    | .ok z S2 => .nx (sl.set i (some z)) S2
    | _ => .no
  | _ => .no
def AugV (K : Fr) (t : TIp) (f : P → P → Option P) : Prop := BinV K t f
theorem sj_aug {op : Operator} {ti : TIp} {f : P → P → Option P} {pos' : Pos} (i : Nat) (ho : PIp C.X op ti) (hb : BinV C.K ti f) (hN : C.X.N.Nodup) (h : Ej C m e) (hi : C.X.N[i]? = some x := by rfl) (hx : Loc C.X.env.scope x := by first | exact Or.inl rfl | exact Or.inr rfl)
    (hf : Fl' C x := by first | exact .inl rfl | exact .inr rfl) : Sj1 C (sAug i f m) (.AugAssign (.Name x pos') op e pos) := .mk fun sl S σ F R H hs hr D post => by
  unfold sAug at post
  cases hd : sl[i]? with
  | none => rw [hd] at post; exact post.elim
  | some od =>
    rw [hd] at post
    cases od with
    | none => exact post.elim
    | some d =>
      obtain ⟨v, e1, rv⟩ := hs.get i d hd
      refine SD1.of (ps_aug hN hi hx pe_d ho hf) ⟨v, e1, h sl S σ F R H hs hr _ (PostS.bind post hs fun d2 S1 y F1 R1 H1 _ ry rep1 s1 r1 hs1 post1 => ?_)⟩
      refine lift2_post (C := C) (σ := σ) (F := F1) (R := R1) rfl hb (rv.mono s1 r1) ry rep1 ?_
      cases hz : lift2 f d d2 S1 with
      | ok z S2 =>
        simp only [hz] at post1
        exact fun v' F' R' H' rv' rep' s' r' => post1 _ F' R' H' ((hs1.mono s' r').set rv') rep' s' r'
      | exc x S2 => simp only [hz] at post1; exact post1.elim
      | no => simp only [hz] at post1; exact post1.elim
theorem sj_augAdd {pos' : Pos} (i : Nat) (hN : C.X.N.Nodup) (h : Ej C m e) (hi : C.X.N[i]? = some x := by rfl) (hx : Loc C.X.env.scope x := by first | exact Or.inl rfl | exact Or.inr rfl) (hf : Fl' C x := by first | exact .inl rfl | exact .inr rfl) : Sj1 C (sAug i (fun p q => match p, q with | .int m, .int n => some (.int (m + n)) | _, _ => none) m) (.AugAssign (.Name x pos') .Add e pos) :=
  sj_aug i ip_add (bv_I0 (g := fun i j => .int (i + j)) (h := fun i j => .int (i + j)) (fun p q z e => by split at e <;> cases e; exact ⟨_, _, rfl, rfl, rfl⟩) fun _ _ _ => .int _) hN h hi hx hf
end
end Z
theorem L2.Room.u65 {k : Nat} {A : PySem.Around} (r : L2.Room k A) : A.units + 65 < PySem.cLine := by have := r.un; omega
theorem L2.Room.u1 {k : Nat} {A : PySem.Around} (r : L2.Room k A) : A.units + 1 < PySem.cLine := by have := r.un; omega

namespace Z
open PySem PySem.Spec PyProof.Rows L2
/-! ### enumerate(tuple) -/
def IteT (K : PySem.W.Frag) (a : Addr) : It :=
  ⟨fun i H => ∃ (xs : List V) (x : V), SqT K H a xs ∧ xs[i]? = some x, fun i H v H' => ∃ T x, v = .ref T ∧ H T = none ∧ H' = upd H T (.tup [.int (i : Nat), x]) ∧ ∀ xs, SqT K H a xs → xs[i]? = some x, fun i H => ∃ xs : List V, SqT K H a xs ∧ xs.length = i⟩
theorem turn_enumT {P : Program} {w : World} {K : PySem.W.Frag} {elts : List Expr} {kk : Nat} {tpos : Pos} (a e it : Addr) (hea : e ≠ a) (hia : a ≠ it) :
    Turn P w K (.Tuple elts kk tpos) (IteT K a) [e, it] e (fun i h => (∃ old, IsEnum h e it ((i : Nat) : Int) old) ∧ h.IsTupleIter it a i ∧ e ≠ it) where
  mem := by simp
  obj := fun i h st b hb => by
    obtain ⟨⟨old, he⟩, ⟨o, ho, hc, hd⟩, _⟩ := st
    have e' : b = e ∨ b = it := by simpa using hb
    rcases e' with z | z
    · rw [z]; exact ⟨_, he, fun v q => nomatch q⟩
    · rw [z]; exact ⟨o, ho, fun v q => by rw [hd] at q; cases q⟩
  keep := fun i h h' st k => let ⟨⟨old, he⟩, hi, hne⟩ := st; ⟨⟨old, k e (by simp) _ he⟩, hi.at fun o q => k it (by simp) o q, hne⟩
  item := by
    intro X hP hw hK hc i pins s σ H E I hf st hg
    subst hP hw hK
    obtain ⟨⟨old, he⟩, hit, hne⟩ := st
    obtain ⟨xs, x, hq, hx⟩ := hg
    obtain ⟨its, rv, p, hz⟩ := I.tuple hq
    obtain ⟨u, hu, ru⟩ := rv.get hx
    have hel : e < s.heap.objs.size := Heap.lt_size he
    have hil : it < s.heap.objs.size := by obtain ⟨_, q, _⟩ := hit; exact Heap.lt_size q
    have hlt : i < its.toArray.size := by
      rw [List.size_toArray]
      exact (List.getElem?_eq_some_iff.mp hu).1
    refine wpAny_pyNext_enum_itemC (Draws.tuple (A := X.A.in1) (I.ok.hd hc) it a hia its.toArray) he ⟨hit, p⟩ hlt hne (by simp; exact ⟨hne, hea⟩) fun x' h' tk hP ho hst hT hsz hk => ?_
    have ex : x' = u := by
      have : its.toArray[i]? = some u := by simpa using hu
      rw [hP] at this; exact Option.some.inj this
    subst ex
    obtain ⟨hit', _⟩ := hst
    refine ⟨_, rfl, wpAny_letOwnedTupleGo_enum (s := { s with heap := h', toks := tk + 1 }) ho fun h'' he' sb => ?_⟩
    have hT2 : h''.get? s.heap.objs.size = some { cls := .type "tuple", data := .seq #[.int i tk, x'] } := (sb.2 _ (Nat.ne_of_gt hel)).trans hT
    have new : ObjOk X.prog X.w (upd H s.heap.objs.size (.tup [.int (i : Nat), x])) h'' s.heap.objs.size (.tup [.int (i : Nat), x]) :=
      ⟨by show 2 ≤ sizeLine; decide, [.int i tk, x'], .cons ⟨_, rfl⟩ (.cons ru .nil), ⟨_, hT2, rfl, _, rfl⟩⟩
    have I1 : Inv X pins σ (upd H s.heap.objs.size (.tup [.int (i : Nat), x])) { s with heap := h'', toks := tk + 1 } :=
      I.turnedNew (ch := [e, it]) (fun b ob hb q => (sb.2 b (fun z => hb (by simp [z]))).trans (hk b ob (fun z => hb (by simp [z])) (fun z => hb (by simp [z])) q)) hf (Nat.le_refl _) new
    refine ⟨.ref s.heap.objs.size, _, I1, rfl, ⟨_, x, rfl, I.hok.fresh (Nat.le_refl _), rfl, fun ys hy => by rw [I.tuple_inj hy hq]; exact hx⟩, ⟨⟨x', ?_⟩, hit'.at fun o q => (sb.2 it (Ne.symm hne)).trans q, hne⟩, fun b hb => ?_⟩
    · have e1 : ((i + 1 : Nat) : Int) = (i : Int) + 1 := by omega
      rw [e1]; exact he'
    · have hb' : b < s.heap.objs.size := by
        have e' : b = e ∨ b = it := by simpa using hb
        rcases e' with z | z
        · rw [z]; exact hel
        · rw [z]; exact hil
      rw [upd_ne (Nat.ne_of_lt hb')]
      exact (hf b hb).1
  done := by
    intro X hP hw hK hc i pins s σ H E I hf st hg
    subst hP hw hK
    obtain ⟨⟨old, he⟩, hit, hne⟩ := st
    obtain ⟨xs, hq, hx⟩ := hg
    obtain ⟨its, rv, p, hz⟩ := I.tuple hq
    obtain ⟨f0, f1, f2, f3, f4, f5⟩ := hf it (by simp)
    have hl := rv.length
    have hn : i = its.toArray.size := by rw [List.size_toArray, ← hl, hx]
    exact wpAny_pyNext_enum_endD (Draws.tuple (A := X.A.in1) (I.ok.hd hc) it a hia its.toArray) he (by rw [← hn]; exact ⟨hit, p⟩) fun h' eb => ⟨rfl, I.turned (t' := s.toks) (fun b o hb q => eb b o hb q) f0 f1 f3 f4 f5⟩
  self := fun A i s Q E st h => let ⟨⟨_, he⟩, _⟩ := st; wpAny_pyIter_enum he h
open AutoSeq1 (wpAny_loadPart') in
set_option maxHeartbeats 4000000 in
theorem meets_enumerate_new1 {v : Value} {o : Obj} {H : Heap → Prop} (B : Begins v o H) :
    Meets (Builtin.«enumerate.__new__» ⟨[.type "enumerate", v], []⟩) (fun _ R s => H s.heap ∧
      R (.ok (.ret (.ref (s.heap.push o).objs.size))) { s with heap := (s.heap.push o).push { cls := .type "enumerate", data := .fields #[.none, .bool false, .ref s.heap.objs.size, rawInt 0, .none, .none] } }) :=
  .of_wp fun prog w A R s h => by
    obtain ⟨hp, g, d, tk, os⟩ := s; obtain ⟨h1, h⟩ := h
    have hsub := sub_enumerate
    have q1 : ∀ {A' : Around} {E : Value → Shared → Prop} {Q : Value → Shared → Prop}, Q (.ref hp.objs.size) ⟨hp.push o, g, d, tk, os⟩ → wpAny (model prog w) A' (pyIter v) Q E ⟨hp, g, d, tk, os⟩ :=
      fun q => B.iter prog w _ _ ⟨hp, g, d, tk, os⟩ _ h1 q
    wp_walk using q1
    refine wpAny_stack_any fun st => wpAny_pure ?_
    split
    · rename_i c _ _ _ _ _
      cases (c == Value.type "enumerate")
      · wp_walk using q1
        exact ⟨_, rfl, h⟩
      · wp_walk using q1
        exact ⟨_, rfl, h⟩
    · wp_walk using q1
      exact ⟨_, rfl, h⟩
theorem call_enumerate_begins {prog : Program} {w : World} {A : Around} {E : Value → Shared → Prop} {s : Shared} {v : Value} {o : Obj} {H : Heap → Prop} {Q : Value → Shared → Prop} (B : Begins v o H) (h1 : H s.heap)
    (h : ∀ h', IsEnum h' (s.heap.objs.size + 1) s.heap.objs.size 0 .none → h'.get? s.heap.objs.size = some o → h'.objs.size = s.heap.objs.size + 2 →
      (∀ b o, s.heap.get? b = some o → h'.get? b = some o) → Q (.ref (s.heap.objs.size + 1)) { s with heap := h' }) :
    wpAny (model prog w) A (call (.type "enumerate") [v]) Q E s := by
  refine callType_new F.called_enumerate (by decide) (F.typeCall_enumerate_1 _) (F.newCall_enumerate_1 _) (fun obj => F.args_object_init_2 obj _) F.entry_enumerate_new
    (meets_enumerate_new1 B) ⟨h1, ?_⟩
  have hz : (s.heap.push o).objs.size = s.heap.objs.size + 1 := Heap.size_push ..
  show _ ∧ _
  rw [hz]
  have he : IsEnum ((s.heap.push o).push { cls := .type "enumerate", data := .fields #[.none, .bool false, .ref s.heap.objs.size, rawInt 0, .none, .none] }) (s.heap.objs.size + 1) s.heap.objs.size 0 .none := by
    have := Heap.get?_push_size (s.heap.push o) (o := { cls := .type "enumerate", data := .fields #[.none, .bool false, .ref s.heap.objs.size, rawInt 0, .none, .none] }) rfl
    rw [hz] at this; exact this
  refine ⟨⟨_, he, rfl⟩, h _ he (Heap.get?_push_of_some _ (Heap.get?_push_size _ B.free)) (by rw [Heap.size_push, hz]) fun b o x => Heap.get?_push_of_some _ (Heap.get?_push_of_some _ x)⟩
def iEnumA (K : PySem.W.Frag) (ta : TA) : TI := fun σ H R => ta σ H fun vs H1 => (∃ a xs, vs = [.ref a] ∧ SqL K H1 a xs ∧ R (Ite K a) H1) ∨ ∃ a xs, vs = [.ref a] ∧ SqT K H1 a xs ∧ R (IteT K a) H1
theorem pi_enumA {X : Cx} {e : Expr} {ta : TA} {p pos tpos : Pos} {elts : List Expr} {kk : Nat} (hg : Gl X "enumerate") (hm : X.mg "enumerate" = none) (ha : PA X [e] ta) (hs : starEach [e] X.env = [(false, eval e X.env)] := by rfl) :
    PI X (.Tuple elts kk tpos) (.Call (.Name "enumerate" p) [e] [] pos) (iEnumA X.K ta) := by
  refine ⟨fun pins s σ H R I h => ?_⟩
  refine Call_ (ld_blt I hg hm boot_enumerate (PyProof.Rows.callWith_type1 (thn (ha.run pos pins s σ H _ I h) fun us s1 ⟨vs, H1, I1, r1, q1⟩ => ?_) hs rfl))
  rcases q1 with ⟨a, xs, ex, hq, q⟩ | ⟨a, xs, ex, hq, q⟩
  · subst ex
    cases r1 with
    | cons r rr =>
      cases rr
      cases r
      obtain ⟨its, rv, p', hz⟩ := I1.list hq
      refine call_enumerate_list p'.isList fun h' he hit hsz hk => wpAny_pyIter_enum he ?_
      have I2 : Inv X pins σ H1 { s1 with heap := h' } := I1.kept (t' := s1.toks) hk
      refine ⟨s1.heap.objs.size + 1, [s1.heap.objs.size + 1, s1.heap.objs.size], _, _, H1, rfl, I2, turn_enum a (s1.heap.objs.size + 1) s1.heap.objs.size, ⟨⟨.none, he⟩, hit, Nat.succ_ne_self _⟩, fun b hb => ?_, q⟩
      have e' : b = s1.heap.objs.size + 1 ∨ b = s1.heap.objs.size := by simpa using hb
      have hle : s1.heap.objs.size ≤ b := by
        rcases e' with z | z
        · rw [z]; exact Nat.le_add_right _ _
        · rw [z]; exact Nat.le_refl _
      exact I1.fpOk hle (I1.hok.fresh hle)
  · subst ex
    cases r1 with
    | cons r rr =>
      cases rr
      cases r
      obtain ⟨its, rv, p', hz⟩ := I1.tuple hq
      have hlt : a < s1.heap.objs.size := by obtain ⟨_, q, _⟩ := p'; exact Heap.lt_size q
      refine call_enumerate_begins (begins_tuple a its.toArray) p' fun h' he hit hsz hk => wpAny_pyIter_enum he ?_
      have I2 : Inv X pins σ H1 { s1 with heap := h' } := I1.kept (t' := s1.toks) hk
      refine ⟨s1.heap.objs.size + 1, [s1.heap.objs.size + 1, s1.heap.objs.size], _, _, H1, rfl, I2, turn_enumT a (s1.heap.objs.size + 1) s1.heap.objs.size (Ne.symm (Nat.ne_of_lt (Nat.lt_succ_of_lt hlt))) (Nat.ne_of_lt hlt), ⟨⟨.none, he⟩, ⟨_, hit, rfl, rfl⟩, Nat.succ_ne_self _⟩, fun b hb => ?_, q⟩
      have e' : b = s1.heap.objs.size + 1 ∨ b = s1.heap.objs.size := by simpa using hb
      have hle : s1.heap.objs.size ≤ b := by
        rcases e' with z | z
        · rw [z]; exact Nat.le_add_right _ _
        · rw [z]; exact Nat.le_refl _
      exact I1.fpOk hle (I1.hok.fresh hle)
/-! ### enumerate, zip, reversed as sources -/
def enumP (ps : List P) : List P := ps.mapIdx fun i p => .tup [.int (i : Int), p]
def zipP (ps qs : List P) : List P := List.zipWith (fun p q => .tup [p, q]) ps qs
section
variable {C : Kx} {a b e : Expr} {pos p : Pos} {m m1 m2 : M} {K : Fr}
theorem pair_rp {F2 H2 : Hp} {T : Addr} {x y : V} {p q : P} (s : Same F2 H2) (n : H2 T = none) (hx : Rp K F2 x p) (hy : Rp K F2 y q) : ∃ F', Grow F2 H2 F' (upd H2 T (.tup [x, y])) ∧ Rp K F' (.ref T) (.tup [p, q]) := by
  have g := Grow.new (o := .tup [x, y]) s n
  exact ⟨_, g, .tup upd_same (.cons (Rp.mono g.sF _ _ hx) (.cons (Rp.mono g.sF _ _ hy) .nil))⟩
theorem it_enum {F : Hp} {a : Addr} {xs : List V} {ds : List P} (h1 : SqL K.K F a xs) (h2 : RpAll K F xs ds) : ItOk K (Ite K.K a) F (enumP ds) := by
  refine ⟨fun i d F2 H2 e s s2 => ?_, fun F2 H2 s s2 => ?_⟩
  · rw [enumP, List.getElem?_mapIdx] at e
    cases hd : ds[i]? with
    | none => rw [hd] at e; cases e
    | some p =>
      rw [hd] at e; cases e
      obtain ⟨v, ev, rv⟩ := h2.get' hd
      have q : SqL K.K H2 a xs := same_sqL s2 (same_sqL s h1)
      refine ⟨⟨xs, v, q, ev⟩, fun x H' y => ?_⟩
      obtain ⟨T, x', rfl, hT, rfl, hall⟩ := y
      have e1 := hall xs q
      rw [ev] at e1; cases e1
      exact pair_rp s2 hT (.int _) (Rp.mono s _ _ rv)
  · exact ⟨xs, same_sqL s2 (same_sqL s h1), by rw [h2.length, enumP, List.length_mapIdx]; exact Nat.le_refl _⟩
theorem it_enumT {F : Hp} {a : Addr} {xs : List V} {ds : List P} (h1 : SqT K.K F a xs) (h2 : RpAll K F xs ds) : ItOk K (IteT K.K a) F (enumP ds) := by
  refine ⟨fun i d F2 H2 e s s2 => ?_, fun F2 H2 s s2 => ?_⟩
  · rw [enumP, List.getElem?_mapIdx] at e
    cases hd : ds[i]? with
    | none => rw [hd] at e; cases e
    | some p =>
      rw [hd] at e; cases e
      obtain ⟨v, ev, rv⟩ := h2.get' hd
      have q : SqT K.K H2 a xs := same_sqT s2 (same_sqT s h1)
      refine ⟨⟨xs, v, q, ev⟩, fun x H' y => ?_⟩
      obtain ⟨T, x', rfl, hT, rfl, hall⟩ := y
      have e1 := hall xs q
      rw [ev] at e1; cases e1
      exact pair_rp s2 hT (.int _) (Rp.mono s _ _ rv)
  · exact ⟨xs, same_sqT s2 (same_sqT s h1), by rw [h2.length, enumP, List.length_mapIdx]⟩
def iEn (m : M) : MI := fun sl S => (m sl S).bind fun d S1 => match d with
  | .p (.lst ps) => .ok (enumP ps) S1
  | .p (.tup ps) => .ok (enumP ps) S1
  | .p (.scr ns) => .ok (enumP (ns.map .int)) S1
  | _ => .no
theorem src_enum (h : Ej C m a) (he : starEach [a] C.X.env = (false, eval a C.X.env) :: starEach [] C.X.env := by exact se_of rfl) : SrcOk C (iEnumA C.X.K (AD C.X [a])) (iEn m) := fun sl S σ F R H hs hr Q post =>
  AD.of (pa_cons pe_d pa_nil he) (h sl S σ F R H hs hr _ (Post.bind post fun d S1 v F1 R1 H1 _ rv rep1 s1 r1 post1 => by
    cases d with
    | ref n => exact post1.elim
    | p q =>
      cases hv : rv with
      | lst h1 h2 => exact .inl ⟨_, _, rfl, .inl (.inl (rep1.sub _ _ h1)), post1.okv (it_enum (.inl (.inl h1)) h2) rep1⟩
      | tup h1 h2 => exact .inr ⟨_, _, rfl, .inl (.inl (rep1.sub _ _ h1)), post1.okv (it_enumT (.inl (.inl h1)) h2) rep1⟩
      | tupW h1 h2 _ => exact .inr ⟨_, _, rfl, same_sqT rep1.sub h1, post1.okv (it_enumT h1 h2) rep1⟩
      | scr h1 => exact .inl ⟨_, _, rfl, same_sqL rep1.sub h1, post1.okv (it_enum h1 (rp_ints _)) rep1⟩
      | _ => exact post1.elim))
theorem it_zip {F : Hp} {a b : Addr} {xs ys : List V} {ds es : List P} (h1 : SqL K.K F a xs) (h2 : RpAll K F xs ds) (h3 : SqL K.K F b ys) (h4 : RpAll K F ys es) : ItOk K (Itz K.K a b) F (zipP ds es) := by
  refine ⟨fun i d F2 H2 e s s2 => ?_, fun F2 H2 s s2 => ?_⟩
  · rw [zipP, List.getElem?_zipWith] at e
    cases hd : ds[i]? with
    | none => rw [hd] at e; cases e
    | some p =>
      cases hd2 : es[i]? with
      | none => rw [hd, hd2] at e; cases e
      | some q =>
        rw [hd, hd2] at e; cases e
        obtain ⟨v, ev, rv⟩ := h2.get' hd
        obtain ⟨w, ew, rw'⟩ := h4.get' hd2
        have q1 : SqL K.K H2 a xs := same_sqL s2 (same_sqL s h1)
        have q2 : SqL K.K H2 b ys := same_sqL s2 (same_sqL s h3)
        refine ⟨⟨xs, ys, v, w, q1, q2, ev, ew⟩, fun x H' y => ?_⟩
        obtain ⟨T, x', y', rfl, hT, rfl, a1, a2⟩ := y
        have e1 := a1 xs q1
        have e2 := a2 ys q2
        rw [ev] at e1; cases e1
        rw [ew] at e2; cases e2
        exact pair_rp s2 hT (Rp.mono s _ _ rv) (Rp.mono s _ _ rw')
  · refine ⟨xs, ys, same_sqL s2 (same_sqL s h1), same_sqL s2 (same_sqL s h3), ?_⟩
    rw [h2.length, h4.length, zipP, List.length_zipWith]
    omega
theorem it_zipT {F : Hp} {a b : Addr} {xs ys : List V} {ds es : List P} (h1 : SqT K.K F a xs) (h2 : RpAll K F xs ds) (h3 : SqT K.K F b ys) (h4 : RpAll K F ys es) : ItOk K (RZ.ItzT K.K a b) F (zipP ds es) := by
  refine ⟨fun i d F2 H2 e s s2 => ?_, fun F2 H2 s s2 => ?_⟩
  · rw [zipP, List.getElem?_zipWith] at e
    cases hd : ds[i]? with
    | none => rw [hd] at e; cases e
    | some p =>
      cases hd2 : es[i]? with
      | none => rw [hd, hd2] at e; cases e
      | some q =>
        rw [hd, hd2] at e; cases e
        obtain ⟨v, ev, rv⟩ := h2.get' hd
        obtain ⟨w, ew, rw'⟩ := h4.get' hd2
        have q1 : SqT K.K H2 a xs := same_sqT s2 (same_sqT s h1)
        have q2 : SqT K.K H2 b ys := same_sqT s2 (same_sqT s h3)
        refine ⟨⟨xs, ys, v, w, q1, q2, ev, ew⟩, fun x H' y => ?_⟩
        obtain ⟨T, x', y', rfl, hT, rfl, a1, a2⟩ := y
        have e1 := a1 xs q1
        have e2 := a2 ys q2
        rw [ev] at e1; cases e1
        rw [ew] at e2; cases e2
        exact pair_rp s2 hT (Rp.mono s _ _ rv) (Rp.mono s _ _ rw')
  · refine ⟨xs, ys, same_sqT s2 (same_sqT s h1), same_sqT s2 (same_sqT s h3), ?_⟩
    rw [h2.length, h4.length, zipP, List.length_zipWith]
    omega
def iZp (m1 m2 : M) : MI := fun sl S => (m1 sl S).bind fun d S1 => (m2 sl S1).bind fun e S2 => match d, e with
  | .p (.lst ps), .p (.lst qs) => .ok (zipP ps qs) S2
  | .p (.tup ps), .p (.tup qs) => .ok (zipP ps qs) S2
  | _, _ => .no
theorem src_zip (h1 : Ej C m1 a) (h2 : Ej C m2 b) (he : starEach [a, b] C.X.env = (false, eval a C.X.env) :: starEach [b] C.X.env := by exact se_of rfl) (he2 : starEach [b] C.X.env = (false, eval b C.X.env) :: starEach [] C.X.env := by exact se_of rfl) : SrcOk C (RZ.iZipA C.X.K (AD C.X [a, b])) (iZp m1 m2) := fun sl S σ F R H hs hr Q post =>
  AD.of (pa_cons pe_d (pa_cons pe_d pa_nil he2) he) (h1 sl S σ F R H hs hr _ (Post.bind post fun d S1 v F1 R1 H1 _ rv rep1 s1 r1 post1 => h2 sl S1 σ F1 R1 H1 (hs.mono s1 r1) rep1 _ (Post.bind post1 fun d2 S2 v2 F2 R2 H2 _ rv2 rep2 s2 r2 post2 => by
    have rv := rv.mono s2 r2
    cases d with
    | ref n => exact post2.elim
    | p q =>
      cases d2 with
      | ref n => cases q <;> exact post2.elim
      | p q2 =>
        cases q with
        | lst ps =>
          cases q2 with
          | lst qs =>
            obtain ⟨a, xs, rfl, g1, g2⟩ := (Vw.p (H := H2) (show Rp C.K F2 v (.lst ps) from rv)).lstE rep2.sub
            obtain ⟨b, ys, rfl, g3, g4⟩ := (Vw.p (H := H2) (show Rp C.K F2 v2 (.lst qs) from rv2)).lstE rep2.sub
            cases rv with
            | lst k1 k2 =>
              cases rv2 with
              | lst k3 k4 => exact ⟨_, _, _, _, rfl, .inl ⟨.inl (.inl (rep2.sub _ _ k1)), .inl (.inl (rep2.sub _ _ k3)), post2.okv (it_zip (.inl (.inl k1)) k2 (.inl (.inl k3)) k4) rep2⟩⟩
          | _ => exact post2.elim
        | tup ps =>
          cases q2 with
          | tup qs =>
            obtain ⟨a, xs, rfl, g1, g2⟩ := (Vw.p (H := H2) (show Rp C.K F2 v (.tup ps) from rv)).tupE
            obtain ⟨b, ys, rfl, g3, g4⟩ := (Vw.p (H := H2) (show Rp C.K F2 v2 (.tup qs) from rv2)).tupE
            exact ⟨_, _, _, _, rfl, .inr ⟨same_sqT rep2.sub g1, same_sqT rep2.sub g3, post2.okv (it_zipT g1 g2 g3 g4) rep2⟩⟩
          | _ => exact post2.elim
        | _ => exact post2.elim)))
end
end Z

namespace Z
open PySem PySem.Spec PyProof.Rows L2
/-! ### keys -/
section
variable {Pg : Program} {w : World} {K : Fr} {H : Hp} {h : Heap}
mutual
theorem nk_is (hok : HOk Pg w H h) (KX : K.K.In h) : ∀ (p : P) (v : V) (u : Value) (k : NestedKey), Rp K H v p → RelV v u → nkP p = some k → NestedIs h k u
  | .non, _, _, _, x, r, e => by cases x; cases r; cases e; exact .none
  | .int i, _, _, _, x, r, e => by cases x; obtain ⟨t, rfl⟩ := r; cases e; exact .int i t
  | .str z, _, _, _, x, r, e => by cases x; obtain ⟨t, rfl⟩ := r; cases e; exact .text z t
  | .tup ps, v, u, k, x, r, e => by
    have sq : ∃ a xs, v = .ref a ∧ SqT K.K H a xs ∧ RpAll K H xs ps := by
      cases x with
      | tup h1 h2 => exact ⟨_, _, rfl, .inl (.inl h1), h2⟩
      | tupW h1 h2 _ => exact ⟨_, _, rfl, h1, h2⟩
    obtain ⟨a, xs, rfl, h1, h2⟩ := sq
    cases (show u = _ from r)
    cases hk : nkAll ps with
    | none => simp only [nkP, hk] at e; cases e
    | some ks =>
      simp only [nkP, hk] at e; cases e
      obtain ⟨its, o, n, hv, e1, e2, e3⟩ := L2.sqT_at hok KX h1
      exact .tup e1 e2 e3 (by simpa using nk_all hok KX ps _ _ _ h2 hv hk)
  | .bl _, _, _, _, _, _, e => by cases e
  | .lst _, _, _, _, _, _, e => by cases e
  | .dic _ _ _, _, _, _, _, _, e => by cases e
  | .ins _ _ _, _, _, _, _, _, e => by cases e
  | .glo _, _, _, _, _, _, e => by cases e
  | .ty _, _, _, _, _, _, e => by cases e
  | .scr _, _, _, _, _, _, e => by cases e
theorem nk_all (hok : HOk Pg w H h) (KX : K.K.In h) : ∀ (ps : List P) (vs : List V) (us : List Value) (ks : List NestedKey), RpAll K H vs ps → Vals vs us → nkAll ps = some ks → NestedAll h ks us
  | [], _, _, _, x, r, e => by cases x; cases r; cases e; exact .nil
  | p :: ps, _, _, ks, x, r, e => by
    cases x with
    | cons x1 x2 =>
      cases r with
      | cons r1 r2 =>
        cases e1 : nkP p with
        | none => simp only [nkAll, e1] at e; cases e
        | some k =>
          cases e2 : nkAll ps with
          | none => simp only [nkAll, e1, e2] at e; cases e
          | some ks =>
            simp only [nkAll, e1, e2] at e; cases e
            exact .cons (nk_is hok KX p _ _ _ x1 r1 e1) (nk_all hok KX ps _ _ _ x2 r2 e2)
end
end
/-- the keys of a dict of tuples -/
structure KsOk (K : Fr) (F : Hp) (kvs : List (NestedKey × Addr × V)) (ks : List P) : Prop where
  rp : RpAll K F (kvs.map fun q => .ref q.2.1) ks
  nk : ks.map nkP = kvs.map (fun q => some q.1)
  dp : ∀ q ∈ kvs, q.1.depth ≤ 8
theorem KsOk.mono {K : Fr} {F F' : Hp} {kvs : List (NestedKey × Addr × V)} {ks : List P} (e : Same F F') (h : KsOk K F kvs ks) : KsOk K F' kvs ks := ⟨RpAll.mono e _ _ h.rp, h.nk, h.dp⟩
abbrev NKV : List (NestedKey × Addr × V) → List (NestedKey × Addr × Value) → Prop := Paired fun p q => p.1 = q.1 ∧ p.2.1 = q.2.1 ∧ RelV p.2.2 q.2.2
def lookN (kvs : List (NestedKey × Addr × V)) (k : NestedKey) : Option V := (kvs.find? fun q => decide (q.1 = k)).map (·.2.2)
theorem NKV.val {kvs : List (NestedKey × Addr × V)} {xs : List (NestedKey × Addr × Value)} (h : NKV kvs xs) (k : NestedKey) : RelO (lookN kvs k) ((atKey xs k).map (·.2)) := by
  induction h with
  | nil => exact trivial
  | @cons p q ps qs hq t ih =>
    obtain ⟨h1, h2, h3⟩ := hq
    unfold lookN atKey at ih ⊢
    by_cases e : p.1 = k
    · rw [List.find?_cons_of_pos (by simpa using e), List.find?_cons_of_pos (by rw [← h1]; simpa using e)]
      exact h3
    · rw [List.find?_cons_of_neg (by simpa using e), List.find?_cons_of_neg (by rw [← h1]; simpa using e)]
      exact ih
def putN (kvs : List (NestedKey × Addr × V)) (k : NestedKey) (b : Addr) (v : V) : List (NestedKey × Addr × V) :=
  if (kvs.any fun q => decide (q.1 = k)) = true then kvs.map (fun q => if q.1 = k then (q.1, q.2.1, v) else q) else kvs ++ [(k, b, v)]
theorem NKV.any {kvs : List (NestedKey × Addr × V)} {xs : List (NestedKey × Addr × Value)} (h : NKV kvs xs) (k : NestedKey) : (kvs.any fun q => decide (q.1 = k)) = (atKey xs k).isSome := by
  induction h with
  | nil => rfl
  | @cons p q ps qs hq t ih =>
    obtain ⟨h1, h2, h3⟩ := hq
    unfold atKey at ih ⊢
    by_cases e : p.1 = k
    · rw [List.any_cons, List.find?_cons_of_pos (by rw [← h1]; simpa using e), decide_eq_true e]; rfl
    · rw [List.any_cons, List.find?_cons_of_neg (by rw [← h1]; simpa using e), decide_eq_false e, Bool.false_or]; exact ih
theorem NKV.put {kvs : List (NestedKey × Addr × V)} {xs : List (NestedKey × Addr × Value)} (h : NKV kvs xs) (k : NestedKey) (b : Addr) {v : V} {u : Value} (r : RelV v u) : NKV (putN kvs k b v) (storedH xs k b u) := by
  have ha := h.any k
  unfold putN storedH
  rw [ha]
  cases hs : (atKey xs k).isSome with
  | true =>
    rw [if_pos rfl, if_pos rfl]
    clear ha hs
    induction h with
    | nil => exact .nil
    | @cons p q ps qs hq t ih =>
      obtain ⟨h1, h2, h3⟩ := hq
      refine .cons ?_ ih
      unfold putAt
      dsimp only
      by_cases e : p.1 = k
      · rw [if_pos e, if_pos (by rw [← h1]; exact e)]
        exact ⟨by first | exact h1 | (rw [← h1]), h2, r⟩
      · rw [if_neg e, if_neg (by rw [← h1]; exact e)]
        exact ⟨h1, h2, h3⟩
  | false =>
    rw [if_neg (by decide), if_neg (by decide)]
    exact h.snoc ⟨rfl, rfl, r⟩
theorem length_putN (kvs : List (NestedKey × Addr × V)) (k : NestedKey) (b : Addr) (v : V) : (putN kvs k b v).length ≤ kvs.length + 1 := by
  unfold putN
  split
  · rw [List.length_map]; omega
  · rw [List.length_append]; exact Nat.le_refl _
section
variable {X : Cx} {pins : List (Addr × Obj)} {σ : L2.St} {H : Hp} {s : Shared} {a b : Addr} {kvs : List (NestedKey × Addr × V)} {ks : List P} {A : Around} {E : Value → Shared → Prop}
theorem dn_ok (hok : HOk X.prog X.w H s.heap) (KX : X.K.In s.heap) (e : H a = some (dN X.prog X.w a kvs)) (hk : KsOk (frX X) H kvs ks) : kvs.length ≤ sizeLine ∧ (a == sysModules) = false ∧ ∃ xs, NKV kvs xs ∧ s.heap.DictOfH (nestedKind X.prog X.w) a xs := by
  obtain ⟨z, hd, xs, rel, o, es, ep, h1, h2, h3, h4, h5⟩ := (show ObjOk X.prog X.w H s.heap a (dN X.prog X.w a kvs) from hok a _ e).1
  refine ⟨z, hd, xs, rel, o, es, ep, h1, h2, h3, h4, ?_, h5⟩
  obtain ⟨r1, r2, r3⟩ := hk
  clear h1 h2 h3 h4 h5 z e hd
  induction rel generalizing ks with
  | nil => intro x hx; cases hx
  | @cons p q ps qs hq t ih =>
    obtain ⟨g1, g2, g3⟩ := hq
    cases ks with
    | nil => cases r1
    | cons k ks =>
      cases r1 with
      | cons r1 r1' =>
        simp only [List.map_cons, List.cons.injEq] at r2
        intro x hx
        rcases List.mem_cons.mp hx with rfl | hx
        · have := nk_is hok KX k _ (.ref p.2.1) _ r1 rfl r2.1
          refine ⟨?_, ?_⟩
          · rw [← g1, ← g2]; exact this
          · rw [← g1]; exact r3 p (List.mem_cons_self ..)
        · exact ih r1' r2.2 (fun q hq => r3 q (List.mem_cons_of_mem _ hq)) x hx
theorem key_at (hok : HOk X.prog X.w H s.heap) (KX : X.K.In s.heap) {p : P} {k : NestedKey} (hp : Rp (frX X) H (.ref b) p) (hk : nkP p = some k) (hd : k.depth ≤ 8) : (nestedKind X.prog X.w).is s.heap k b := ⟨nk_is hok KX p _ (.ref b) _ hp rfl hk, hd⟩
/-- what the dict at a holds at the key y: tuples -/
def GetN (K : Fr) (H : Hp) (a : Addr) (y : V) (r : Option V) : Prop := ∃ kvs ks b p k, H a = some (dN K.pg K.w a kvs) ∧ KsOk K H kvs ks ∧ y = .ref b ∧ Rp K H (.ref b) p ∧ nkP p = some k ∧ k.depth ≤ 8 ∧ r = lookN kvs k
def GetZ (K : Fr) (H : Hp) (a : Addr) (y : V) (r : Option V) : Prop := DGet H a y r ∨ GetN K H a y r
theorem n_getItem {y v : V} {u : Value} {Q : Value → Shared → Prop} (hu : A.units + 16 < cLine) (I : Inv X pins σ H s) (g : GetN (frX X) H a y (some v)) (ry : RelV y u) (h : ∀ w' s', Inv X pins σ H s' → RelV v w' → Q w' s') : wpAny (model X.prog X.w) A (getItem (.ref a) u) Q E s := by
  obtain ⟨kvs, ks, b, p, k, e, hk, rfl, hp, hn, hd, l⟩ := g
  cases (show u = Value.ref b from ry)
  obtain ⟨z, hd', xs, rel, dd⟩ := dn_ok I.hok I.kIn e hk
  obtain ⟨w', hw, rw'⟩ := RelO.some_of (v := v) (o := (atKey xs k).map (·.2)) (by rw [l]; exact rel.val k)
  obtain ⟨p', hp', hp2⟩ := Option.map_eq_some_iff.mp hw
  refine wpAny_getItem_heap (show A.in1.units + 8 < cLine by show A.units + 1 + 8 < cLine; omega) (key_at I.hok I.kIn hp hn hd) dd hp' ?_
  rw [hp2]
  exact h w' _ (I.tok _) rw'
theorem n_in {y : V} {o : Option V} {u : Value} {Q : Value → Shared → Prop} (hu : A.units + 16 < cLine) (I : Inv X pins σ H s) (g : GetN (frX X) H a y o) (ry : RelV y u) (h : ∀ s', Inv X pins σ H s' → Q (.bool o.isSome) s') : wpAny (model X.prog X.w) A (compareOp .In u (.ref a)) Q E s := by
  obtain ⟨kvs, ks, b, p, k, e, hk, rfl, hp, hn, hd, l⟩ := g
  cases (show u = Value.ref b from ry)
  obtain ⟨z, hd', xs, rel, dd⟩ := dn_ok I.hok I.kIn e hk
  refine wpAny_in_heap (show A.in1.units + 8 < cLine by show A.units + 1 + 8 < cLine; omega) (key_at I.hok I.kIn hp hn hd) hd' dd ?_
  have q := (rel.val k).isSome_eq
  rw [Option.isSome_map] at q
  rw [← q, ← l]
  exact h _ (I.tok _)
theorem n_notIn {y : V} {o : Option V} {u : Value} {Q : Value → Shared → Prop} (hu : A.units + 16 < cLine) (I : Inv X pins σ H s) (g : GetN (frX X) H a y o) (ry : RelV y u) (h : ∀ s', Inv X pins σ H s' → Q (.bool (!o.isSome)) s') : wpAny (model X.prog X.w) A (compareOp .NotIn u (.ref a)) Q E s := by
  obtain ⟨kvs, ks, b, p, k, e, hk, rfl, hp, hn, hd, l⟩ := g
  cases (show u = Value.ref b from ry)
  obtain ⟨z, hd', xs, rel, dd⟩ := dn_ok I.hok I.kIn e hk
  refine wpAny_notIn_heap (show A.in1.units + 8 < cLine by show A.units + 1 + 8 < cLine; omega) (key_at I.hok I.kIn hp hn hd) hd' dd ?_
  have q := (rel.val k).isSome_eq
  rw [Option.isSome_map] at q
  rw [← q, ← l]
  exact h _ (I.tok _)
/-- d[y] = v -/
theorem n_setItem {p : P} {k : NestedKey} {v : V} {r : Value} {Q : Unit → Shared → Prop} (hu : A.units + 16 < cLine) (I : Inv X pins σ H s) (e : H a = some (dN X.prog X.w a kvs)) (hk : KsOk (frX X) H kvs ks) (hp : Rp (frX X) H (.ref b) p) (hn : nkP p = some k) (hd : k.depth ≤ 8) (hl : kvs.length < sizeLine) (rv : RelV v r)
    (h : ∀ s', Inv X pins σ (upd H a (dN X.prog X.w a (putN kvs k b v))) s' → Q () s') : wpAny (model X.prog X.w) A (setItem (.ref a) (.ref b) r) Q E s := by
  obtain ⟨z, hd', xs, rel, dd⟩ := dn_ok I.hok I.kIn e hk
  have hz : xs.length ≤ sizeLine := by rw [← Paired.length rel]; exact z
  have hl' : (putN kvs k b v).length ≤ sizeLine := by have := length_putN kvs k b v; omega
  refine wpAny_setItem_heap (hsz := hz) (show A.in1.units + 8 < cLine by show A.units + 1 + 8 < cLine; omega) (key_at I.hok I.kIn hp hn hd) dd fun h' dd' hs => h _ ?_
  obtain ⟨q, es, ep, hq, h2, h3, h4, _, h5⟩ := dd'
  refine d_write I (by rw [e]; exact True.intro) hs ⟨q, hq⟩ ⟨⟨hl', hd', _, rel.put k b rv, q, es, ep, hq, h2, h3, h4, h5⟩, ⟨q, hq⟩, fun h1 h2 hx hy => ?_⟩
  obtain ⟨y1, y2, ys, y3, o, es', ep', y4, y5⟩ := hx
  exact ⟨y1, y2, ys, y3, o, es', ep', hy o y4, y5⟩
end
end Z

namespace Z
open PySem PySem.Spec PyProof.Rows L2
/-! ### dicts by keys -/
def keyOf : P → Option Key
  | .int i => some (.inl i)
  | .str z => some (.inr z)
  | _ => none
theorem keyOf_eq {p : P} {k : Key} (h : keyOf p = some k) : p = keyP k := by
  cases p <;> first | (cases h; rfl) | (cases h; done)
theorem keyP_inj {a b : Key} (h : keyP a = keyP b) : a = b := by
  cases a <;> cases b <;> first | (injection h with h; rw [h]) | (cases h)
def okKey (t : Bool) (p : P) : Bool := match t, p with
  | true, .tup ps => match nkP (.tup ps) with
    | some k => decide (k.depth ≤ 8)
    | none => false
  | true, _ => false
  | false, p => (keyOf p).isSome
mutual
theorem nkP_inj : ∀ (p q : P) (k : NestedKey), nkP p = some k → nkP q = some k → p = q
  | .non, q, k, h, h' => by
    cases h
    cases q <;> first | rfl | (cases h'; done) | skip
    rename_i ps
    cases hk : nkAll ps <;> simp only [nkP, hk] at h' <;> cases h'
  | .int i, q, k, h, h' => by
    cases h
    cases q <;> first | (cases h'; rfl) | (cases h'; done) | skip
    rename_i ps
    cases hk : nkAll ps <;> simp only [nkP, hk] at h' <;> cases h'
  | .str i, q, k, h, h' => by
    cases h
    cases q <;> first | (cases h'; rfl) | (cases h'; done) | skip
    rename_i ps
    cases hk : nkAll ps <;> simp only [nkP, hk] at h' <;> cases h'
  | .tup ps, q, k, h, h' => by
    cases hk : nkAll ps with
    | none => simp only [nkP, hk] at h; cases h
    | some ks =>
      simp only [nkP, hk] at h; cases h
      cases q <;> first | (cases h'; done) | skip
      rename_i qs
      cases hk' : nkAll qs with
      | none => simp only [nkP, hk'] at h'; cases h'
      | some ls =>
        simp only [nkP, hk'] at h'
        have e : ls = ks := by injection h' with h'; injection h'
        rw [nkAll_inj ps qs ks hk (by rw [hk', e])]
  | .bl _, _, _, h, _ => by cases h
  | .lst _, _, _, h, _ => by cases h
  | .dic _ _ _, _, _, h, _ => by cases h
  | .ins _ _ _, _, _, h, _ => by cases h
  | .glo _, _, _, h, _ => by cases h
  | .ty _, _, _, h, _ => by cases h
  | .scr _, _, _, h, _ => by cases h
theorem nkAll_inj : ∀ (ps qs : List P) (ks : List NestedKey), nkAll ps = some ks → nkAll qs = some ks → ps = qs
  | [], qs, ks, h, h' => by
    cases h
    cases qs with
    | nil => rfl
    | cons q qs =>
      cases e1 : nkP q <;> cases e2 : nkAll qs <;> simp only [nkAll, e1, e2] at h' <;> cases h'
  | p :: ps, qs, ks, h, h' => by
    cases e1 : nkP p with
    | none => simp only [nkAll, e1] at h; cases h
    | some k =>
      cases e2 : nkAll ps with
      | none => simp only [nkAll, e1, e2] at h; cases h
      | some ls =>
        simp only [nkAll, e1, e2] at h; cases h
        cases qs with
        | nil => cases h'
        | cons q qs =>
          cases e3 : nkP q with
          | none => simp only [nkAll, e3] at h'; cases h'
          | some k' =>
            cases e4 : nkAll qs with
            | none => simp only [nkAll, e3, e4] at h'; cases h'
            | some ls' =>
              simp only [nkAll, e3, e4] at h'
              injection h' with h'
              injection h' with a1 a2
              rw [nkP_inj p q k e1 (by rw [e3, a1]), nkAll_inj ps qs ls e2 (by rw [e4, a2])]
end
def lookL {α : Type} : List P → List α → P → Option α
  | k :: ks, d :: ds, p => if k = p then some d else lookL ks ds p
  | _, _, _ => none
def putV {α : Type} (ks : List P) (ds : List α) (p : P) (x : α) : List α := if p ∈ ks then List.zipWith (fun k d => if k = p then x else d) ks ds else ds ++ [x]
def putKs (ks : List P) (p : P) : List P := if p ∈ ks then ks else ks ++ [p]
section
variable {K : Fr} {F H : Hp} {R : List Addr} {S : Store}
theorem lookK {key : Key} : ∀ {kvs : List (Key × V)} {ds : List D}, RelAll K F R (kvs.map (·.2)) ds → (match lookL (kvs.map fun q => keyP q.1) ds (keyP key) with
    | some d => ∃ v, valV kvs key = some v ∧ RelD K F R v d
    | none => valV kvs key = none)
  | [], _, h => by cases h; exact rfl
  | q :: kvs, _, h => by
    cases h with
    | @cons v d vs ds h1 h2 =>
      simp only [List.map_cons, lookL]
      by_cases e : q.1 = key
      · rw [if_pos (by rw [e])]
        exact ⟨_, valV_pos e, h1⟩
      · rw [if_neg (fun z => e (keyP_inj z)), valV_neg e]
        exact lookK h2
theorem lookN_of {k : NestedKey} {p : P} (hp : nkP p = some k) : ∀ {kvs : List (NestedKey × Addr × V)} {ks : List P} {ds : List D}, ks.map nkP = kvs.map (fun q => some q.1) → RelAll K F R (kvs.map (·.2.2)) ds → (match lookL ks ds p with
    | some d => ∃ v, lookN kvs k = some v ∧ RelD K F R v d
    | none => lookN kvs k = none)
  | [], [], _, _, h => by cases h; exact rfl
  | [], _ :: _, _, e, _ => by cases e
  | _ :: _, [], _, e, _ => by cases e
  | q :: kvs, k' :: ks, _, e, h => by
    cases h with
    | @cons v d vs ds h1 h2 =>
      simp only [List.map_cons, List.cons.injEq] at e
      simp only [lookL]
      unfold lookN
      by_cases e' : q.1 = k
      · rw [if_pos (nkP_inj _ _ _ (by rw [e.1, e']) hp), List.find?_cons_of_pos (by simpa using e')]
        exact ⟨_, rfl, h1⟩
      · rw [if_neg (fun z => e' (by rw [z, hp] at e; exact (Option.some.inj e.1).symm)), List.find?_cons_of_neg (by simpa using e')]
        exact lookN_of hp e.2 h2
/-- a dict's entries -/
def dicOf (S : Store) : D → Option (Bool × List P × List D)
  | .p (.dic t ks ps) => some (t, ks, ps.map .p)
  | .ref n => match S[n]? with
    | some (.dic t ks ds) => some (t, ks, ds)
    | _ => none
  | _ => none
theorem RelAll.pp {vs : List V} {ps : List P} (h : RpAll K F vs ps) : RelAll K F R vs (ps.map .p) := RelAll.of_p h
inductive DicAt (K : Fr) (F : Hp) (R : List Addr) (H : Hp) (a : Addr) : Bool → List P → List D → Prop
  | k {kvs : List (Key × V)} {ds : List D} : H a = some (.dK kvs) → RelAll K F R (kvs.map (·.2)) ds → DicAt K F R H a false (kvs.map fun q => keyP q.1) ds
  | n {kvs : List (NestedKey × Addr × V)} {ks : List P} {ds : List D} : H a = some (dN K.pg K.w a kvs) → KsOk K F kvs ks → RelAll K F R (kvs.map (·.2.2)) ds → DicAt K F R H a true ks ds
theorem dicOf_at {G : Hp} {v : V} {d : D} {t : Bool} {ks : List P} {ds : List D} (hv : RelD K F R v d) (rep : Rep K G F R S H) (e : dicOf S d = some (t, ks, ds)) : ∃ a, v = .ref a ∧ DicAt K F R H a t ks ds := by
  cases d with
  | p q =>
    cases q with
    | dic t' ks' ps =>
      cases e
      cases (show Rp K F v (.dic t ks ps) from hv) with
      | dicK h1 h2 h3 => subst h2; exact ⟨_, rfl, .k (rep.sub _ _ h1) (RelAll.of_p h3)⟩
      | dicN h1 h2 h3 h4 h5 => exact ⟨_, rfl, .n (rep.sub _ _ h1) ⟨h2, h3, h4⟩ (RelAll.of_p h5)⟩
    | _ => cases e
  | ref n =>
    cases hn : S[n]? with
    | none => simp only [dicOf, hn] at e; cases e
    | some c =>
      cases c with
      | dic t' ks' ds' =>
        simp only [dicOf, hn] at e; cases e
        obtain ⟨a, q, e1, ok, out⟩ := rep.at hn
        obtain ⟨a', e1', rfl⟩ := hv
        rw [e1] at e1'; cases e1'
        refine ⟨a, rfl, ?_⟩
        cases ok with
        | dicK hk hr => subst hk; exact .k (out a _ one_same).2 hr
        | dicN h1 h2 h3 hr => exact .n (out a _ one_same).2 ⟨h1, h2, h3⟩ hr
      | _ => simp only [dicOf, hn] at e; cases e
theorem okKey_k {p : P} (h : okKey false p = true) : ∃ k, keyOf p = some k := by
  cases hk : keyOf p with
  | none => simp only [okKey, hk] at h; cases h
  | some k => exact ⟨k, rfl⟩
theorem okKey_n {p : P} (h : okKey true p = true) : ∃ ps k, p = .tup ps ∧ nkP p = some k ∧ k.depth ≤ 8 := by
  cases p with
  | tup ps =>
    cases hk : nkP (.tup ps) with
    | none => simp only [okKey, hk] at h; cases h
    | some k => simp only [okKey, hk] at h; exact ⟨ps, k, rfl, rfl, of_decide_eq_true h⟩
  | _ => cases h
theorem vw_key {y : V} {k : Key} {p : P} (h : Vw K F H y p) (hk : keyOf p = some k) : y = kV k := by
  cases p <;> first | (cases hk; done) | skip
  · cases hk; exact h.int
  · cases hk; exact h.str
/-- what is found -/
theorem dic_get {a : Addr} {y : V} {t : Bool} {ks : List P} {ds : List D} {p : P} (h : DicAt K F R H a t ks ds) (s : Same F H) (hy : Vw K F H y p) (hk : okKey t p = true) : (match lookL ks ds p with
    | some d => ∃ v, GetZ K H a y (some v) ∧ RelD K F R v d
    | none => GetZ K H a y none) := by
  cases h with
  | @k kvs ds h1 h2 =>
    obtain ⟨key, hk⟩ := okKey_k hk
    have e := keyOf_eq hk
    have := lookK (key := key) h2
    rw [← e] at this
    have hy := vw_key hy hk
    subst hy
    cases hl : lookL (kvs.map fun q => keyP q.1) ds p with
    | none => rw [hl] at this; rw [← this]; exact .inl (DGet.k h1)
    | some d =>
      rw [hl] at this
      obtain ⟨v, e1, e2⟩ := this
      exact ⟨v, by rw [← e1]; exact .inl (DGet.k h1), e2⟩
  | @n kvs ks ds h1 h2 h3 =>
    obtain ⟨ps, k, rfl, hn, hd⟩ := okKey_n hk
    have := lookN_of hn h2.nk h3
    have rp := Rp.mono s _ _ hy.tupP
    obtain ⟨b, vs, rfl, _, _⟩ := hy.tupE
    cases hl : lookL ks ds (.tup ps) with
    | none => rw [hl] at this; exact .inr ⟨kvs, ks, b, _, k, h1, h2.mono s, rfl, rp, hn, hd, this.symm⟩
    | some d =>
      rw [hl] at this
      obtain ⟨v, e1, e2⟩ := this
      exact ⟨v, .inr ⟨kvs, ks, b, _, k, h1, h2.mono s, rfl, rp, hn, hd, e1.symm⟩, e2⟩
end
/-! ### d[k] -/
def rDix (K : Fr) : R2 := fun x y H Q => ∃ a v, x = .ref a ∧ GetZ K H a y (some v) ∧ Q v H
theorem getZ_type {X : Cx} {pins : List (Addr × Obj)} {σ : L2.St} {H : Hp} {s : Shared} {a : Addr} {y : V} {o : Option V} (I : Inv X pins σ H s) (g : GetZ (frX X) H a y o) : s.TypeIs (.ref a) "dict" := by
  rcases g with g | ⟨kvs, ks, b, p, k, e, hk, _⟩
  · exact dict_typeIs I g
  · obtain ⟨_, _, xs, _, dd⟩ := dn_ok I.hok I.kIn e hk
    exact dd.typeIs
theorem z_getItem {X : Cx} {pins : List (Addr × Obj)} {σ : L2.St} {H : Hp} {s : Shared} {a : Addr} {y v : V} {u : Value} {A : Around} {E : Value → Shared → Prop} {Q : Value → Shared → Prop} (hu : A.units + 16 < cLine) (I : Inv X pins σ H s) (g : GetZ (frX X) H a y (some v)) (ry : RelV y u) (h : ∀ w' s', Inv X pins σ H s' → RelV v w' → Q w' s') : wpAny (model X.prog X.w) A (getItem (.ref a) u) Q E s := by
  rcases g with g | g
  · exact d_getItem (by omega) I g ry h
  · exact n_getItem hu I g ry h
theorem ix_dict {X : Cx} (hu : X.A.units + 16 < cLine) : IxR X (rDix (frX X)) := by
  intro value slice pins s σ H x y v u Q I rx ry h hs
  obtain ⟨a, z, rfl, g, q⟩ := h
  cases rx
  have hT := getZ_type I g
  unfold subscriptTail
  refine wpAny_bind ?_
  rw [getitemInPython_of_ne hT.not_modules]
  refine wpAny_bind (wpAny_specialOf hT PySem.F.slot_dict_getitem.lookup ?_)
  have fin : wpAny (model X.prog X.w) X.A (subscripted slice false (.ref a) u) (fun r s₃ => wpAny (model X.prog X.w) X.A (letTemporaryGo value (.ref a) r >>= fun _ => pure r) (EP X pins σ Q) X.xe s₃) X.xe s := by
    rw [hs]
    exact wpAny_operating (z_getItem hu I g ry fun w' s3 I3 rw' => wpAny_bind (wpAny_letTemporaryGo (wpAny_pure ⟨z, H, I3, rw', q⟩)))
  first
    | exact wpAny_pure (wpAny_bind fin)
    | exact wpAny_bind (wpAny_pure (wpAny_bind fin))
    | exact wpAny_bind fin
def ixG (d k : D) (S : Store) : Rs D := match dicOf S d with
  | some (t, ks, ds) => match view S k with
    | some p => if okKey t p = true then match lookL ks ds p with
        | some r => .ok r S
        | none => .no
      else .no
    | none => .no
  | none => match d with
    | .ref n => match S[n]?, view S k with
      | some (.lst ds), some (.int i) => match atI ds i with
        | some r => .ok r S
        | none => .no
      | _, _ => .no
    | .p _ => lift2 ixP d k S
def eIx (m1 m2 : M) : M := fun sl S => (m1 sl S).bind fun d1 S1 => (m2 sl S1).bind fun d2 S2 => ixG d1 d2 S2
theorem atI_rel {K : Fr} {F : Hp} {R : List Addr} {ds : List D} {vs : List V} {k : Int} {d : D} (h : RelAll K F R vs ds) (e : atI ds k = some d) : ∃ v, atI vs k = some v ∧ RelD K F R v d := by
  unfold atI at e ⊢
  rw [h.length]
  cases hj : ixN ds.length k with
  | none => rw [hj] at e; cases e
  | some j =>
    rw [hj] at e
    obtain ⟨v, e1, e2⟩ := RelAll.get' (i := j) (d := d) h e
    exact ⟨v, e1, e2⟩
section
variable {C : Kx} {a b c e o tg : Expr} {es rest : List Expr} {pos p apos cpos : Pos} {x : Str} {m m1 m2 mo me : M} {ma : MA}
theorem ej_ixG (hu : C.X.A.units + 16 < cLine) (h1 : Ej C m1 a) (h2 : Ej C m2 b) (hs : PlainIx b := by exact fun _ _ => rfl) : Ej C (eIx m1 m2) (.Subscript a b pos) := .mk fun sl S σ F R H hs' hr Q post =>
  ED.of (pe_ix (IxR.or ix_z (ix_dict hu)) pe_d pe_d hs) (h1 sl S σ F R H hs' hr _ (Post.bind post fun d1 S1 x F1 R1 H1 _ rx rep1 s1 r1 post1 => h2 sl S1 σ F1 R1 H1 (hs'.mono s1 r1) rep1 _ (Post.bind post1 fun d2 S2 y F2 R2 H2 _ ry rep2 s2 r2 post2 => by
    have rx := rx.mono s2 r2
    unfold ixG at post2
    cases hd : dicOf S2 d1 with
    | some q =>
      obtain ⟨t, ks, ds⟩ := q
      simp only [hd] at post2
      cases hv : view S2 d2 with
      | none => simp only [hv] at post2; exact post2.elim
      | some kp =>
        simp only [hv] at post2
        by_cases hk : okKey t kp = true
        · rw [if_pos hk] at post2
          obtain ⟨a, rfl, at_⟩ := dicOf_at rx rep2 hd
          have := dic_get at_ rep2.sub (view_vw ry rep2 hv) hk
          cases hl : lookL ks ds kp with
          | none => simp only [hl] at post2; exact post2.elim
          | some r =>
            simp only [hl] at post2 this
            obtain ⟨v, g, rv⟩ := this
            exact .inr ⟨a, v, rfl, g, post2.okv rv rep2⟩
        · rw [if_neg hk] at post2; exact post2.elim
    | none =>
      simp only [hd] at post2
      cases d1 with
      | p q => exact .inl (lift2_post rfl bv_ix rx ry rep2 post2)
      | ref n =>
        cases hn : S2[n]? with
        | none => simp only [hn] at post2; exact post2.elim
        | some cl =>
          cases cl with
          | lst ds =>
            cases hv : view S2 d2 with
            | none => simp only [hn, hv] at post2; exact post2.elim
            | some kp =>
              cases kp with
              | int i =>
                simp only [hn, hv] at post2
                cases hi : atI ds i with
                | none => simp only [hi] at post2; exact post2.elim
                | some r =>
                  simp only [hi] at post2
                  obtain ⟨l, vs, e1, e2, hr4⟩ := rep2.lstAt hn
                  obtain ⟨l', e1', rfl⟩ := rx
                  rw [e1] at e1'; cases e1'
                  obtain ⟨v, e3, e4⟩ := atI_rel hr4 hi
                  exact .inl (.inl ⟨l, vs, i, v, rfl, (view_vw ry rep2 hv).int, .inl (.inl e2), e3, post2.okv e4 rep2⟩)
              | _ => simp only [hn, hv] at post2; exact post2.elim
          | _ => simp only [hn] at post2; exact post2.elim)))
/-! ### k in d -/
def inG (neg : Bool) (d1 d2 : D) (S : Store) : Rs D := match dicOf S d2 with
  | some (t, ks, ds) => match view S d1 with
    | some p => if okKey t p = true then .ok (.p (.bl (xor neg (lookL ks ds p).isSome))) S else .no
    | none => .no
  | none => lift2 (if neg then opNotIn else opIn) d1 d2 S
def eIn (neg : Bool) (m1 m2 : M) : M := fun sl S => (m1 sl S).bind fun d1 S1 => (m2 sl S1).bind fun d2 S2 => inG neg d1 d2 S2
def rDin (K : Fr) : R2 := fun x y H Q => ∃ a o, y = .ref a ∧ GetZ K H a x o ∧ Q (.bl o.isSome) H
def rDnin (K : Fr) : R2 := fun x y H Q => ∃ a o, y = .ref a ∧ GetZ K H a x o ∧ Q (.bl (!o.isSome)) H
theorem op_din {X : Cx} (hu : X.A.units + 16 < cLine) : OpR X (compareOp .In) (rDin (frX X)) := by
  intro pins s σ H x y v u Q I rx ry h
  obtain ⟨a, o, rfl, g, q⟩ := h
  cases (show u = Value.ref a from ry)
  rcases g with g | g
  · exact d_in (by omega) I g rx fun s' I' => ⟨.bl _, H, I', rfl, q⟩
  · exact n_in hu I g rx fun s' I' => ⟨.bl _, H, I', rfl, q⟩
theorem op_dnin {X : Cx} (hu : X.A.units + 16 < cLine) : OpR X (compareOp .NotIn) (rDnin (frX X)) := by
  intro pins s σ H x y v u Q I rx ry h
  obtain ⟨a, o, rfl, g, q⟩ := h
  cases (show u = Value.ref a from ry)
  rcases g with g | g
  · exact d_notIn (by omega) I g rx fun s' I' => ⟨.bl _, H, I', rfl, q⟩
  · exact n_notIn hu I g rx fun s' I' => ⟨.bl _, H, I', rfl, q⟩
theorem inG_post {σ : L2.St} {F H : Hp} {R : List Addr} {S : Store} {d1 d2 : D} {x y : V} {Q : VK} (rx : RelD C.K F R x d1) (ry : RelD C.K F R y d2) (rep : Rep C.K C.G F R S H) (post : Post C σ F R (RelD C.K) Q (inG false d1 d2 S)) : rInZ C.X.K x y H Q ∨ rDin C.K x y H Q := by
  unfold inG at post
  cases hd : dicOf S d2 with
  | none => simp only [hd] at post; exact .inl (lift2_post rfl bv_in rx ry rep post)
  | some q =>
    obtain ⟨t, ks, ds⟩ := q
    simp only [hd] at post
    cases hv : view S d1 with
    | none => simp only [hv] at post; exact post.elim
    | some kp =>
      simp only [hv] at post
      by_cases hk : okKey t kp = true
      · rw [if_pos hk] at post
        obtain ⟨a, rfl, at_⟩ := dicOf_at ry rep hd
        have := dic_get at_ rep.sub (view_vw rx rep hv) hk
        refine .inr ?_
        cases hl : lookL ks ds kp with
        | none =>
          simp only [hl] at post this
          exact ⟨a, none, rfl, this, post.okv (show RelD C.K F R (.bl false) (.p (.bl (xor false false))) from .bl _) rep⟩
        | some r =>
          simp only [hl] at post this
          obtain ⟨v, g, rv⟩ := this
          exact ⟨a, some v, rfl, g, post.okv (show RelD C.K F R (.bl true) (.p (.bl (xor false true))) from .bl _) rep⟩
      · rw [if_neg hk] at post; exact post.elim
theorem ninG_post {σ : L2.St} {F H : Hp} {R : List Addr} {S : Store} {d1 d2 : D} {x y : V} {Q : VK} (rx : RelD C.K F R x d1) (ry : RelD C.K F R y d2) (rep : Rep C.K C.G F R S H) (post : Post C σ F R (RelD C.K) Q (inG true d1 d2 S)) : rNotInZ C.X.K x y H Q ∨ rDnin C.K x y H Q := by
  unfold inG at post
  cases hd : dicOf S d2 with
  | none => simp only [hd] at post; exact .inl (lift2_post rfl bv_notin rx ry rep post)
  | some q =>
    obtain ⟨t, ks, ds⟩ := q
    simp only [hd] at post
    cases hv : view S d1 with
    | none => simp only [hv] at post; exact post.elim
    | some kp =>
      simp only [hv] at post
      by_cases hk : okKey t kp = true
      · rw [if_pos hk] at post
        obtain ⟨a, rfl, at_⟩ := dicOf_at ry rep hd
        have := dic_get at_ rep.sub (view_vw rx rep hv) hk
        refine .inr ?_
        cases hl : lookL ks ds kp with
        | none =>
          simp only [hl] at post this
          exact ⟨a, none, rfl, this, post.okv (show RelD C.K F R (.bl true) (.p (.bl (xor true false))) from .bl _) rep⟩
        | some r =>
          simp only [hl] at post this
          obtain ⟨v, g, rv⟩ := this
          exact ⟨a, some v, rfl, g, post.okv (show RelD C.K F R (.bl false) (.p (.bl (xor true true))) from .bl _) rep⟩
      · rw [if_neg hk] at post; exact post.elim
theorem ej_inG (hu : C.X.A.units + 65 < cLine) (h1 : Ej C m1 a) (h2 : Ej C m2 b) (hm : Mk .In b := by first | exact nomark _ | rfl) : Ej C (eIn false m1 m2) (.Compare a [.In] [b] pos) := .mk fun sl S σ F R H hs hr Q post =>
  ED.of (pe_cmpR (OpR.or (or_in hu) (op_din (by omega))) pe_d pe_d hm) (h1 sl S σ F R H hs hr _ (Post.bind post fun d1 S1 x F1 R1 H1 _ rx rep1 s1 r1 post1 => h2 sl S1 σ F1 R1 H1 (hs.mono s1 r1) rep1 _ (Post.bind post1 fun d2 S2 y F2 R2 H2 _ ry rep2 s2 r2 post2 => inG_post (rx.mono s2 r2) ry rep2 post2)))
theorem ej_ninG (hu : C.X.A.units + 65 < cLine) (h1 : Ej C m1 a) (h2 : Ej C m2 b) (hm : Mk .NotIn b := by first | exact nomark _ | rfl) : Ej C (eIn true m1 m2) (.Compare a [.NotIn] [b] pos) := .mk fun sl S σ F R H hs hr Q post =>
  ED.of (pe_cmpR (OpR.or (or_notin hu) (op_dnin (by omega))) pe_d pe_d hm) (h1 sl S σ F R H hs hr _ (Post.bind post fun d1 S1 x F1 R1 H1 _ rx rep1 s1 r1 post1 => h2 sl S1 σ F1 R1 H1 (hs.mono s1 r1) rep1 _ (Post.bind post1 fun d2 S2 y F2 R2 H2 _ ry rep2 s2 r2 post2 => ninG_post (rx.mono s2 r2) ry rep2 post2)))
def tIn (neg : Bool) (m1 m2 : M) : MT := fun sl S => (eIn neg m1 m2 sl S).bind asB
theorem tj_inG (hu : C.X.A.units + 65 < cLine) (h1 : Ej C m1 a) (h2 : Ej C m2 b) (hm : Mk .In b := by first | exact nomark _ | rfl) : Tj C (tIn false m1 m2) (.Compare a [.In] [b] pos) :=
  tj_of (pt_cmpR (OpR.or (or_in hu) (op_din (by omega))) pe_d pe_d hm) fun sl S σ F R H hs hr Q post => h1 sl S σ F R H hs hr _ (Post.bind post fun d1 S1 x F1 R1 H1 _ rx rep1 s1 r1 post1 => h2 sl S1 σ F1 R1 H1 (hs.mono s1 r1) rep1 _ (Post.bind post1 fun d2 S2 y F2 R2 H2 _ ry rep2 s2 r2 post2 => inG_post (rx.mono s2 r2) ry rep2 post2))
theorem tj_ninG (hu : C.X.A.units + 65 < cLine) (h1 : Ej C m1 a) (h2 : Ej C m2 b) (hm : Mk .NotIn b := by first | exact nomark _ | rfl) : Tj C (tIn true m1 m2) (.Compare a [.NotIn] [b] pos) :=
  tj_of (pt_cmpR (OpR.or (or_notin hu) (op_dnin (by omega))) pe_d pe_d hm) fun sl S σ F R H hs hr Q post => h1 sl S σ F R H hs hr _ (Post.bind post fun d1 S1 x F1 R1 H1 _ rx rep1 s1 r1 post1 => h2 sl S1 σ F1 R1 H1 (hs.mono s1 r1) rep1 _ (Post.bind post1 fun d2 S2 y F2 R2 H2 _ ry rep2 s2 r2 post2 => ninG_post (rx.mono s2 r2) ry rep2 post2))
end
end Z

namespace Z
open PySem PySem.Spec PyProof.Rows L2
section
variable {K : Fr} {F H : Hp} {R : List Addr} {S : Store}
theorem any_keyK {key : Key} : ∀ {kvs : List (Key × V)}, (kvs.any fun q => decide (q.1 = key)) = true ↔ keyP key ∈ kvs.map fun q => keyP q.1
  | [] => by simp
  | q :: kvs => by
    rw [List.any_cons, List.map_cons, List.mem_cons, Bool.or_eq_true, any_keyK, decide_eq_true_eq]
    exact ⟨fun h => h.imp (fun e => by rw [e]) id, fun h => h.imp (fun e => (keyP_inj e).symm) id⟩
theorem putK_keys {key : Key} {v : V} {kvs : List (Key × V)} : (putK kvs key v).map (fun q => keyP q.1) = putKs (kvs.map fun q => keyP q.1) (keyP key) := by
  unfold putK putKs
  by_cases h : (kvs.any fun q => decide (q.1 = key)) = true
  · rw [if_pos h, if_pos (any_keyK.mp h), List.map_map]
    refine List.map_congr_left fun q _ => ?_
    show keyP (if q.1 = key then (q.1, v) else q).1 = keyP q.1
    split <;> rfl
  · rw [if_neg h, if_neg (fun z => h (any_keyK.mpr z)), List.map_append]
    rfl
theorem putK_vals {key : Key} {v : V} {d : D} {kvs : List (Key × V)} {ds : List D} (hv : RelD K F R v d) (h : RelAll K F R (kvs.map (·.2)) ds) : RelAll K F R ((putK kvs key v).map (·.2)) (putV (kvs.map fun q => keyP q.1) ds (keyP key) d) := by
  unfold putK putV
  by_cases hc : (kvs.any fun q => decide (q.1 = key)) = true
  · rw [if_pos hc, if_pos (any_keyK.mp hc)]
    clear hc
    induction kvs generalizing ds with
    | nil => cases h; exact .nil
    | cons q kvs ih =>
      cases h with
      | @cons _ d' _ ds h1 h2 =>
        refine .cons ?_ (ih h2)
        dsimp only
        by_cases e : q.1 = key
        · rw [if_pos e, if_pos (by rw [e])]; exact hv
        · rw [if_neg e, if_neg (fun z => e (keyP_inj z))]; exact h1
  · rw [if_neg hc, if_neg (fun z => hc (any_keyK.mpr z)), List.map_append]
    exact h.append (.cons hv .nil)
theorem any_keyN {k : NestedKey} {p : P} (hp : nkP p = some k) : ∀ {kvs : List (NestedKey × Addr × V)} {ks : List P}, ks.map nkP = kvs.map (fun q => some q.1) → ((kvs.any fun q => decide (q.1 = k)) = true ↔ p ∈ ks)
  | [], [], _ => by simp
  | [], _ :: _, e => by cases e
  | _ :: _, [], e => by cases e
  | q :: kvs, k' :: ks, e => by
    simp only [List.map_cons, List.cons.injEq] at e
    rw [List.any_cons, List.mem_cons, Bool.or_eq_true, any_keyN hp e.2, decide_eq_true_eq]
    refine ⟨fun h => h.imp (fun z => ?_) id, fun h => h.imp (fun z => ?_) id⟩
    · exact nkP_inj _ _ _ hp (by rw [e.1, z])
    · rw [← z, hp] at e; exact (Option.some.inj e.1).symm
theorem putN_keys {k : NestedKey} {p : P} {b : Addr} {v : V} {kvs : List (NestedKey × Addr × V)} {ks : List P} (hp : nkP p = some k) (hd : k.depth ≤ 8) (hr : Rp K F (.ref b) p) (h : KsOk K F kvs ks) : KsOk K F (putN kvs k b v) (putKs ks p) := by
  unfold putN putKs
  by_cases hc : (kvs.any fun q => decide (q.1 = k)) = true
  · rw [if_pos hc, if_pos ((any_keyN hp h.nk).mp hc)]
    have e1 : ∀ q : NestedKey × Addr × V, (if q.1 = k then (q.1, q.2.1, v) else q).1 = q.1 := fun q => by split <;> rfl
    have e2 : ∀ q : NestedKey × Addr × V, (if q.1 = k then (q.1, q.2.1, v) else q).2.1 = q.2.1 := fun q => by split <;> rfl
    refine ⟨?_, ?_, fun q hq => ?_⟩
    · rw [List.map_map]
      have : (fun q : NestedKey × Addr × V => V.ref q.2.1) ∘ (fun q => if q.1 = k then (q.1, q.2.1, v) else q) = fun q => V.ref q.2.1 := by funext q; show V.ref _ = _; rw [e2]
      rw [this]; exact h.rp
    · rw [List.map_map]
      have : (fun q : NestedKey × Addr × V => some q.1) ∘ (fun q => if q.1 = k then (q.1, q.2.1, v) else q) = fun q => some q.1 := by funext q; show some _ = _; rw [e1]
      rw [this]; exact h.nk
    · obtain ⟨q', hq', rfl⟩ := List.mem_map.mp hq
      rw [e1]; exact h.dp q' hq'
  · rw [if_neg hc, if_neg (fun z => hc ((any_keyN hp h.nk).mpr z))]
    refine ⟨?_, ?_, fun q hq => ?_⟩
    · rw [List.map_append]; exact h.rp.append (.cons hr .nil)
    · rw [List.map_append, List.map_append, h.nk]; simp [hp]
    · rcases List.mem_append.mp hq with hq | hq
      · exact h.dp q hq
      · simp at hq; subst hq; exact hd
theorem putN_vals {k : NestedKey} {p : P} {b : Addr} {v : V} {d : D} (hp : nkP p = some k) (hv : RelD K F R v d) : ∀ {kvs : List (NestedKey × Addr × V)} {ks : List P} {ds : List D}, ks.map nkP = kvs.map (fun q => some q.1) → RelAll K F R (kvs.map (·.2.2)) ds → RelAll K F R ((putN kvs k b v).map (·.2.2)) (putV ks ds p d) := by
  intro kvs ks ds hn h
  unfold putN putV
  by_cases hc : (kvs.any fun q => decide (q.1 = k)) = true
  · rw [if_pos hc, if_pos ((any_keyN hp hn).mp hc)]
    clear hc
    induction kvs generalizing ds ks with
    | nil =>
      cases h
      cases ks with
      | nil => exact .nil
      | cons => cases hn
    | cons q kvs ih =>
      cases ks with
      | nil => cases hn
      | cons k' ks =>
        simp only [List.map_cons, List.cons.injEq] at hn
        cases h with
        | @cons _ d' _ ds h1 h2 =>
          refine .cons ?_ (ih hn.2 h2)
          dsimp only
          by_cases e : q.1 = k
          · rw [if_pos e, if_pos (nkP_inj _ _ _ (by rw [hn.1, e]) hp)]; exact hv
          · rw [if_neg e, if_neg (fun z => e (by rw [z, hp] at hn; exact (Option.some.inj hn.1).symm))]; exact h1
  · rw [if_neg hc, if_neg (fun z => hc ((any_keyN hp hn).mpr z)), List.map_append]
    exact h.append (.cons hv .nil)
/-- a live dict changed -/
theorem Rep.dicSet {G : Hp} {n : Nat} {t : Bool} {ks ks' : List P} {ds ds' : List D} {a : Addr} {o : HO} (h : Rep K G F R S H) (e : S[n]? = some (.dic t ks ds)) (ea : R[n]? = some a) (hc : CellOk K F R a (one a o) (.dic t ks' ds')) : Rep K G F R (S.set n (.dic t ks' ds')) (upd H a o) :=
  h.mut (q' := id) e ea fun q ok _ => by
    have key : ∀ o', upd (one a o') a o = one a o := fun o' => by
      funext b
      unfold upd one
      by_cases hb : b = a
      · rw [if_pos hb, if_pos hb]
      · rw [if_neg hb, if_neg hb, if_neg hb]
    cases ok with
    | dicK hk hr => exact ⟨by rw [one_same]; exact fun z => (nomatch z), by rw [key]; exact hc⟩
    | dicN h1 h2 h3 hr => exact ⟨by rw [one_same]; exact fun z => (nomatch z), by rw [key]; exact hc⟩
end
/-! ### d[k] = v -/
def rSetD (K : Fr) : TSet := fun o i v H Q => (∃ a kvs k, o = .ref a ∧ i = kV k ∧ H a = some (.dK kvs) ∧ kvs.length < sizeLine ∧ Q (upd H a (.dK (putK kvs k v)))) ∨
  ∃ a kvs ks b p k, o = .ref a ∧ i = .ref b ∧ H a = some (dN K.pg K.w a kvs) ∧ KsOk K H kvs ks ∧ Rp K H (.ref b) p ∧ nkP p = some k ∧ k.depth ≤ 8 ∧ kvs.length < sizeLine ∧ Q (upd H a (dN K.pg K.w a (putN kvs k b v)))
theorem set_dict {X : Cx} (hu : X.A.units + 16 < cLine) : PSet X (rSetD (frX X)) := by
  intro pins s σ H o i v ov iv u Q I ro ri rv h
  rcases h with ⟨a, kvs, k, rfl, rfl, e, hl, q⟩ | ⟨a, kvs, ks, b, p, k, rfl, rfl, e, hk, hp, hn, hd, hl, q⟩
  · cases ro
    exact d_setItem (by omega) I (DPut.k e hl) ri rv fun s' I' => ⟨_, I', q⟩
  · cases ro
    cases ri
    exact n_setItem hu I e hk hp hn hd hl rv fun s' I' => ⟨_, I', q⟩
theorem PSet.or {X : Cx} {t1 t2 : TSet} (h1 : PSet X t1) (h2 : PSet X t2) : PSet X (fun o i v H Q => t1 o i v H Q ∨ t2 o i v H Q) := by
  intro pins s σ H o i v ov iv u Q I ro ri rv h
  rcases h with h | h
  · exact h1 pins s σ H o i v ov iv u Q I ro ri rv h
  · exact h2 pins s σ H o i v ov iv u Q I ro ri rv h
/-- the store behind d[k] = v -/
def putG (S : Store) (n : Nat) (k v : D) : Option Store := match S[n]? with
  | some (.lst ds) => match view S k with
    | some (.int i) => match ixN ds.length i with
      | some j => some (S.set n (.lst (ds.set j v)))
      | none => none
    | _ => none
  | some (.dic t ks ds) => match view S k with
    | some p => if okKey t p = true ∧ ks.length < sizeLine then some (S.set n (.dic t (putKs ks p) (putV ks ds p v))) else none
    | none => none
  | _ => none
section
variable {C : Kx} {a b c e o tg : Expr} {es rest : List Expr} {pos p apos cpos : Pos} {x : Str} {m m1 m2 mo me mi : M} {ma : MA}
theorem keys_len {kvs : List (Key × V)} : (kvs.map fun q => keyP q.1).length = kvs.length := List.length_map ..
theorem KsOk.len {K : Fr} {F : Hp} {kvs : List (NestedKey × Addr × V)} {ks : List P} (h : KsOk K F kvs ks) : ks.length = kvs.length := by
  have := congrArg List.length h.nk
  rw [List.length_map, List.length_map] at this; exact this
theorem putG_post {F H : Hp} {R : List Addr} {S S' : Store} {n : Nat} {k v : D} {x y : V} {l : Addr} {Q : Hp → Prop} (el : R[n]? = some l) (ry : RelD C.K F R y k) (rx : RelD C.K F R x v) (rep : Rep C.K C.G F R S H) (e : putG S n k v = some S')
    (q : ∀ H', Rep C.K C.G F R S' H' → Q H') : rSetL (.ref l) y x H Q ∨ rSetD C.K (.ref l) y x H Q := by
  unfold putG at e
  cases hn : S[n]? with
  | none => simp only [hn] at e; cases e
  | some cl =>
    cases cl with
    | lst ds =>
      simp only [hn] at e
      cases hv : view S k with
      | none => simp only [hv] at e; cases e
      | some kp =>
        cases kp with
        | int i =>
          simp only [hv] at e
          cases hj : ixN ds.length i with
          | none => simp only [hj] at e; cases e
          | some j =>
            simp only [hj] at e; cases e
            obtain ⟨l', vs, e1, e2, hr4⟩ := rep.lstAt hn
            rw [el] at e1; cases e1
            exact .inl ⟨l, vs, i, j, rfl, (view_vw ry rep hv).int, e2, by rw [hr4.length]; exact hj, q _ (rep.lstSet hn el (RelAll.set rx j hr4))⟩
        | _ => simp only [hv] at e; cases e
    | dic t ks ds =>
      simp only [hn] at e
      cases hv : view S k with
      | none => simp only [hv] at e; cases e
      | some kp =>
        simp only [hv] at e
        obtain ⟨⟨hk, hl⟩, rfl⟩ := if_some e
        refine .inr ?_
        have hy := view_vw ry rep hv
        obtain ⟨a', q', e1, ok, out⟩ := rep.at hn
        rw [el] at e1; cases e1
        cases ok with
        | @dicK kvs _ _ hks hr =>
          obtain ⟨key, hk⟩ := okKey_k hk
          have ek := keyOf_eq hk
          subst ek
          subst hks
          refine .inl ⟨l, kvs, key, rfl, vw_key hy hk, (out l _ one_same).2, by rw [keys_len] at hl; exact hl, q _ ?_⟩
          exact rep.dicSet hn el (by rw [← putK_keys (v := x)]; exact .dicK rfl (putK_vals rx hr))
        | @dicN kvs _ _ h1 h2 h3 hr =>
          obtain ⟨ps, key, rfl, hnk, hd⟩ := okKey_n hk
          have rp := hy.tupP
          obtain ⟨b, vs, rfl, _, _⟩ := hy.tupE
          have ksok : KsOk C.K F kvs ks := ⟨h1, h2, h3⟩
          refine .inr ⟨l, kvs, ks, b, _, key, rfl, rfl, (out l _ one_same).2, ksok.mono rep.sub, Rp.mono rep.sub _ _ rp, hnk, hd, by rw [← ksok.len]; exact hl, q _ ?_⟩
          have k' := putN_keys (v := x) hnk hd rp ksok
          exact rep.dicSet hn el (.dicN k'.rp k'.nk k'.dp (putN_vals hnk rx h2 hr))
    | _ => simp only [hn] at e; cases e
def sPut (mo mi me : M) : MS := fun sl S => (me sl S).st sl fun v S1 => (mo sl S1).st sl fun d S2 => (mi sl S2).st sl fun i S3 => match d with
  | .ref n => match putG S3 n i v with
    | some S4 => .nx sl S4
    | none => .no
  | _ => .no
theorem sj_put (hu : C.X.A.units + 16 < cLine) (h0 : Ej C me e) (h1 : Ej C mo o) (h2 : Ej C mi a) (ha : ∀ v, assign (.Subscript o a apos) C.X.env v = (do
      let ov ← holding [v] (eval o C.X.env)
      let iv ← holding [v, ov] (eval a C.X.env)
      standAt apos
      holding [v, ov, iv] (setItem ov iv v)
      release [v, ov, iv] []) := by intro _; rfl) (hs' : swapsWithSole [.Subscript o a apos] e pos.line C.X.env = pure false := by rfl) (hw : swappedStores [.Subscript o a apos] e C.X.env = pure none := by rfl)
    (h1' : (assignEach [.Subscript o a apos] C.X.env).map (·.2) = [assign (.Subscript o a apos) C.X.env] := by rfl) : Sj1 C (sPut mo mi me) (.Assign [.Subscript o a apos] e pos) := .mk fun sl S σ F R H hs hr D post =>
  SD1.of (ps_asg pe_d (pg_sub pe_d pe_d (PSet.or set_list (set_dict hu)) ha) hs' hw h1') (h0 sl S σ F R H hs hr _ (PostS.bind post hs fun v S1 x F1 R1 H1 _ rx rep1 s1 r1 hs1 post1 => h1 sl S1 σ F1 R1 H1 hs1 rep1 _ (PostS.bind post1 hs1 fun d S2 y F2 R2 H2 _ ry rep2 s2 r2 hs2 post2 => h2 sl S2 σ F2 R2 H2 hs2 rep2 _ (PostS.bind post2 hs2 fun i S3 z F3 R3 H3 _ rz rep3 s3 r3 hs3 post3 => by
    cases d with
    | p q => exact post3.elim
    | ref n =>
      cases hp : putG S3 n i v with
      | none => simp only [hp] at post3; exact post3.elim
      | some S4 =>
        simp only [hp] at post3
        obtain ⟨l, el, rfl⟩ := ry.mono s3 r3
        exact putG_post el rz ((rx.mono s2 r2).mono s3 r3) rep3 hp fun H' rep' => post3 σ F3 R3 H' hs3 rep' (Same.refl _) pre_refl))))
/-! ### {} -/
def eDN (t : Bool) : M := fun _ S => .ok (.ref S.length) (S ++ [.dic t [] []])
theorem ej_dnewK : Ej C (eDN false) (.Dict [] [] pos) := .mk fun sl S σ F R H hs hr Q post =>
  ED.of pe_dnewK fun l hn => post _ F (R ++ [l]) _ (show RelD C.K _ _ _ (.ref S.length) from ⟨l, last_get hr.len, rfl⟩) (hr.push1 hn (.dicK (kvs := []) rfl .nil)) (Same.refl _) pre_app
def tDNewN (X : Cx) : TE := fun _ H Q => ∀ p, H p = none → Q (.ref p) (upd H p (dN X.prog X.w p []))
theorem pe_dnewN {X : Cx} : PE X (.Dict [] [] pos) (tDNewN X) := ⟨fun pins s σ H Q I h =>
  wpAny_Dict_empty ⟨.ref s.heap.objs.size, _, I.laid (a := s.heap.objs.size) (o := dN X.prog X.w s.heap.objs.size []) (t' := s.toks) (fun _ _ q => Heap.get?_push_of_some _ q) (Nat.le_refl _)
    ⟨⟨Nat.zero_le _, beq_eq_false_iff_ne.mpr (Ne.symm (Nat.ne_of_lt I.big)), [], .nil, _, #[], 0, Heap.get?_push_size _ rfl, ⟨rfl, rfl, rfl⟩, rfl, rfl, List.nodup_nil⟩, ⟨_, Heap.get?_push_size _ rfl⟩, fun h1 h2 hx hy => by
      obtain ⟨y1, y2, ys, y3, o, es', ep', y4, y5⟩ := hx
      exact ⟨y1, y2, ys, y3, o, es', ep', hy o y4, y5⟩⟩, rfl, h _ (I.hok.fresh (Nat.le_refl _))⟩⟩
theorem ej_dnewN : Ej C (eDN true) (.Dict [] [] pos) := .mk fun sl S σ F R H hs hr Q post =>
  ED.of pe_dnewN fun l hn => post _ F (R ++ [l]) _ (show RelD C.K _ _ _ (.ref S.length) from ⟨l, last_get hr.len, rfl⟩) (hr.push1 hn (.dicN (kvs := []) .nil rfl (fun _ h => nomatch h) .nil)) (Same.refl _) pre_app
end
end Z

namespace Z
open PySem PySem.Spec PyProof.Rows L2
/-! ### attributes -/
def lookF {α : Type} : List Str → List α → Str → Option α
  | k :: ks, d :: ds, f => if k = f then some d else lookF ks ds f
  | _, _, _ => none
def putFk (f : Str) : List Str → List Str
  | [] => [f]
  | k :: ks => if k = f then k :: ks else k :: putFk f ks
def putFv {α : Type} (f : Str) (x : α) : List Str → List α → List α
  | k :: ks, d :: ds => if k = f then x :: ds else d :: putFv f x ks ds
  | _, _ => [x]
/-- an instance's class and attributes -/
def insOf (S : Store) : D → Option (Str × List Str × List D)
  | .p (.ins c ks ps) => some (c, ks, ps.map .p)
  | .ref n => match S[n]? with
    | some (.ins c ks ds) => some (c, ks, ds)
    | _ => none
  | _ => none
section
variable {K : Fr} {F H : Hp} {R : List Addr} {S : Store}
theorem insOf_at {G : Hp} {v : V} {d : D} {c : Str} {ks : List Str} {ds : List D} (hv : RelD K F R v d) (rep : Rep K G F R S H) (e : insOf S d = some (c, ks, ds)) : ∃ a dx fs, v = .ref a ∧ H a = some (.ins (He.ga K.K c) dx fs) ∧ ks = fs.map (·.1) ∧ RelAll K F R (fs.map (·.2)) ds := by
  cases d with
  | p q =>
    cases q with
    | ins c' ks' ps =>
      cases e
      cases (show Rp K F v (.ins c ks ps) from hv) with
      | ins h1 h2 h3 h4 => exact ⟨_, _, _, rfl, rep.sub _ _ h1, h3, RelAll.of_p h4⟩
    | _ => cases e
  | ref n =>
    cases hn : S[n]? with
    | none => simp only [insOf, hn] at e; cases e
    | some cl =>
      cases cl with
      | ins c' ks' ds' =>
        simp only [insOf, hn] at e; cases e
        obtain ⟨a, q, e1, ok, out⟩ := rep.at hn
        obtain ⟨a', e1', rfl⟩ := hv
        rw [e1] at e1'; cases e1'
        cases ok with
        | @ins dx _ fs _ _ hd hk hr => exact ⟨a, dx, fs, rfl, (out a _ two_fst).2, hk, hr⟩
      | _ => simp only [insOf, hn] at e; cases e
theorem lookF_at {f : Str} : ∀ {fs : List (Str × V)} {ds : List D}, RelAll K F R (fs.map (·.2)) ds → (match lookF (fs.map (·.1)) ds f with
    | some d => ∃ v, fs.lookup f = some v ∧ RelD K F R v d
    | none => fs.lookup f = none)
  | [], _, h => by cases h; exact rfl
  | q :: fs, _, h => by
    cases h with
    | @cons v d vs ds h1 h2 =>
      obtain ⟨k, u⟩ := q
      simp only [List.map_cons, lookF]
      by_cases e : k = f
      · rw [if_pos e]
        exact ⟨u, by rw [List.lookup_cons, show (f == k) = true by simp [e]], h1⟩
      · rw [if_neg e]
        have : List.lookup f ((k, u) :: fs) = List.lookup f fs := by rw [List.lookup_cons, show (f == k) = false by simp; exact fun z => e z.symm]
        rw [this]
        exact lookF_at h2
theorem putF_keys {f : Str} {v : V} : ∀ fs : List (Str × V), (putF f v fs).map (·.1) = putFk f (fs.map (·.1))
  | [] => rfl
  | (k, u) :: fs => by
    simp only [putF, List.map_cons, putFk]
    by_cases e : k = f
    · rw [if_pos e, if_pos e]; rfl
    · rw [if_neg e, if_neg e, List.map_cons, putF_keys fs]
theorem putF_vals {f : Str} {v : V} {d : D} (hv : RelD K F R v d) : ∀ {fs : List (Str × V)} {ds : List D}, RelAll K F R (fs.map (·.2)) ds → RelAll K F R ((putF f v fs).map (·.2)) (putFv f d (fs.map (·.1)) ds)
  | [], _, h => by cases h; exact .cons hv .nil
  | (k, u) :: fs, _, h => by
    cases h with
    | @cons _ d' _ ds h1 h2 =>
      simp only [putF, List.map_cons, putFv]
      by_cases e : k = f
      · rw [if_pos e, if_pos e]; exact .cons hv h2
      · rw [if_neg e, if_neg e]; exact .cons h1 (putF_vals hv h2)
end
/-- what is known of the attribute f of the classes cs -/
def FldOk (K : PySem.W.Frag) (cs : List Str) (f : Str) : Prop := ∀ c ∈ cs, Cls K (He.ga K c) ∧ NoAttr K (He.ga K c) f
def fldG (cs : List Str) (f : Str) (S : Store) (d : D) : Rs D := match insOf S d with
  | some (c, ks, ds) => if c ∈ cs then match lookF ks ds f with
      | some r => .ok r S
      | none => .no
    else .no
  | none => .no
def eFld (cs : List Str) (f : Str) (m : M) : M := fun sl S => (m sl S).bind fun d S1 => fldG cs f S1 d
section
variable {C : Kx} {a b c e o tg : Expr} {es rest : List Expr} {pos pos' p apos cpos : Pos} {x f : Str} {m m1 m2 mo me mi : M} {ma : MA} {cs : List Str}
theorem ej_fld (hf : FldOk C.X.K cs f) (h : Ej C m o) (hb : Bs C o f := by rfl) : Ej C (eFld cs f m) (.Attribute o f pos) := .mk fun sl S σ F R H hs hr Q post =>
  ED.of (pe_fld pe_d hb) (h sl S σ F R H hs hr _ (Post.bind post fun d S1 x F1 R1 H1 _ rx rep1 s1 r1 post1 => by
    unfold fldG at post1
    cases hi : insOf S1 d with
    | none => simp only [hi] at post1; exact post1.elim
    | some q =>
      obtain ⟨c, ks, ds⟩ := q
      simp only [hi] at post1
      by_cases hc : c ∈ cs
      · rw [if_pos hc] at post1
        obtain ⟨a, dx, fs, rfl, ea, rfl, hv⟩ := insOf_at rx rep1 hi
        have := lookF_at (f := f) hv
        cases hl : lookF (fs.map (·.1)) ds f with
        | none => simp only [hl] at post1; exact post1.elim
        | some r =>
          simp only [hl] at post1 this
          obtain ⟨v, e1, e2⟩ := this
          exact ⟨a, _, dx, fs, v, rfl, ea, (hf c hc).1, (hf c hc).2, e1, post1.okv e2 rep1⟩
      · rw [if_neg hc] at post1; exact post1.elim))
/-! self.f = e -/
def sFldS (cs : List Str) (f : Str) (mo me : M) : MS := fun sl S => (me sl S).st sl fun v S1 => (mo sl S1).st sl fun d S2 => match d with
  | .ref n => match S2[n]? with
    | some (.ins c ks ds) => if c ∈ cs ∧ ks.length < 1000 then .nx sl (S2.set n (.ins c (putFk f ks) (putFv f v ks ds))) else .no
    | _ => .no
  | _ => .no
theorem sj_fld (hf : FldOk C.X.K cs f) (h0 : Ej C me e) (h1 : Ej C mo o) (hs' : swapsWith e (some (.Attribute o f pos')) pos.line C.X.env = pure false := by rfl) : Sj1 C (sFldS cs f mo me) (.Assign [.Attribute o f pos'] e pos) := .mk fun sl S σ F R H hs hr D post =>
  SD1.of (ps_fld pe_d pe_d hs') (h0 sl S σ F R H hs hr _ (PostS.bind post hs fun v S1 x F1 R1 H1 _ rx rep1 s1 r1 hs1 post1 => h1 sl S1 σ F1 R1 H1 hs1 rep1 _ (PostS.bind post1 hs1 fun d S2 y F2 R2 H2 _ ry rep2 s2 r2 hs2 post2 => by
    cases d with
    | p q => exact post2.elim
    | ref n =>
      cases hn : S2[n]? with
      | none => simp only [hn] at post2; exact post2.elim
      | some cl =>
        cases cl with
        | ins c ks ds =>
          simp only [hn] at post2
          by_cases hc : c ∈ cs ∧ ks.length < 1000
          · rw [if_pos hc] at post2
            obtain ⟨a, q, e1, ok, out⟩ := rep2.at hn
            obtain ⟨a', e1', rfl⟩ := ry
            rw [e1] at e1'; cases e1'
            cases ok with
            | @ins dx _ fs _ _ hd hk hr' =>
              subst hk
              refine ⟨a, _, dx, fs, rfl, (out a _ two_fst).2, (hf c hc.1).1, (hf c hc.1).2, by have := hc.2; rw [List.length_map] at this; exact this, ?_⟩
              have ha := (out a _ two_fst).2
              clear out
              refine post2 σ F2 R2 _ hs2 (rep2.mut (q' := id) hn e1 fun q ok hq => ?_) (Same.refl _) pre_refl
              cases ok with
              | @ins dx' _ fs' _ _ hd' hk' hr2 =>
                have e2 := hq a _ two_fst
                rw [ha] at e2
                cases e2
                refine ⟨by rw [two_fst]; exact fun z => (nomatch z), ?_⟩
                have e3 : upd (two a (.ins (He.ga C.X.K c) dx fs) dx (.own a)) a (.ins (He.ga C.X.K c) dx (putF f x fs)) = two a (.ins (He.ga C.X.K c) dx (putF f x fs)) dx (.own a) := by
                  funext b
                  unfold upd two
                  by_cases hb : b = a
                  · rw [if_pos hb, if_pos hb]
                  · rw [if_neg hb, if_neg hb, if_neg hb]
                rw [e3]
                exact .ins hd (putF_keys fs).symm (putF_vals (rx.mono s2 r2) hr2)
          · rw [if_neg hc] at post2; exact post2.elim
        | _ => simp only [hn] at post2; exact post2.elim)))
end
end Z

namespace Z
open PySem PySem.Spec PyProof.Rows L2
/-! ### calls: n written values, the defaults dfl fill up -/
def Form (P : Program) (w : World) (K : PySem.W.Frag) (mg : Str → Option Value) (base : Heap) (k : Nat) (f : Addr) (fn : Fn) (n : Nat) (dfl : List Z.P) : Prop :=
  ∃ fd ps ds dvs, FnOk P w K mg base (L2.CX P w) k f fd ps (spF ⟨K, P, w⟩ (n + dfl.length) fn) ∧ Binds K fd ps ds ∧ Vals dvs ds ∧ ∀ F, RpAll ⟨K, P, w⟩ F dvs dfl
abbrev Kx.form (C : Kx) (k : Nat) (f : Addr) (fn : Fn) (n : Nat) (dfl : List P) : Prop := Form C.X.prog C.X.w C.X.K C.X.mg C.X.base k f fn n dfl
theorem Form.mono {Pg : Program} {w : World} {K : PySem.W.Frag} {mg : Str → Option Value} {base : Heap} {k j : Nat} {f : Addr} {fn : Fn} {n : Nat} {dfl : List P} (h : Form Pg w K mg base k f fn n dfl) (hj : k ≤ j) : Form Pg w K mg base j f fn n dfl := by
  obtain ⟨fd, ps, ds, dvs, h1, h2⟩ := h
  exact ⟨fd, ps, ds, dvs, h1.mono hj, h2⟩
section
variable {X : Cx} {CX : CXT} {k : Nat} {f C : Addr} {fd : FuncData} {ps : List Str} {sp : Sp} {dvs : List V} {ds : List Value} {E : L2.St → XK} {x m : Str} {p pos apos : Pos} {e o : Expr} {es : List Expr} {ta : TE} {t : TA}
def tMethS (C : Addr) (m : Str) (sp : Sp) (dvs : List V) (E : L2.St → XK) (ta : TE) (t : TA) : TE := fun σ H Q => ta σ H fun x H1 => ∃ a dx fs, x = .ref a ∧ H1 a = some (.ins C dx fs) ∧ fs.lookup m = none ∧ t σ H1 fun vs H2 => sp (x :: (vs ++ dvs)) H2 Q (E σ)
theorem pe_methZ {pl : Sem Bool} (he : PE X o ta) (c : Cls X.K C) (hm : Meth X.K C m f) (F : FnOk X.prog X.w X.K X.mg X.base CX k f fd ps sp) (hr : Room k X.A) (hb : Binds X.K fd ps ds) (hd : Vals dvs ds) (hx : ∀ σ, PassesAt CX X σ (E σ)) (ha : PA X (e :: es) t)
    (hst : starEach (e :: es) X.env = (false, eval e X.env) :: starEach es X.env := by exact se_of rfl) (hpl : (backTo pos (starEach es X.env)).any (·.1) = false := by exact pl_of rfl)
    (ht : eval (.Call (.Attribute o m apos) (e :: es) [] pos) X.env = (do
      let ov ← eval o X.env
      standAt apos.atName
      let (f, first) ← holding [ov] (getMethod ov m pl)
      callWith pos f first (backTo pos (starEach (e :: es) X.env)) (backToKw pos (keywordEach [] X.env))) := by rfl) :
    PE X (.Call (.Attribute o m apos) (e :: es) [] pos) (tMethS C m sp dvs E ta t) := by
  refine ⟨fun pins s σ H Q I h => ?_⟩
  refine PySem.W.methodCall_KW (pl := pl) (thn (he.run pins s σ H _ I h) fun u s1 ⟨x, H1, I1, rx, a, dx, fs, ex, ea, l, q⟩ => ?_) ht
  subst ex
  obtain rfl : u = Value.ref a := rx
  refine getmeth_ok I1 ea c hm l ?_
  refine PySem.W.callWith_K (first := [.ref a]) (h₀ := X.base) I.ok.mod.kin hm.kp (thn (ha.run pos pins s1 σ H1 _ I1 q) fun us s2 ⟨vs, H2, I2, r, q2⟩ => ⟨I2.kIn, ?_⟩) hst hpl
  exact run_fnSD (us := .ref a :: us) (vs := .ref a :: vs) F hr hb hd (hx σ) I2 (.cons rfl r) q2
theorem pe_methZ0 {pl : Sem Bool} (he : PE X o ta) (c : Cls X.K C) (hm : Meth X.K C m f) (F : FnOk X.prog X.w X.K X.mg X.base CX k f fd ps sp) (hr : Room k X.A) (hb : Binds X.K fd ps ds) (hd : Vals dvs ds) (hx : ∀ σ, PassesAt CX X σ (E σ))
    (ht : eval (.Call (.Attribute o m apos) [] [] pos) X.env = (do
      let ov ← eval o X.env
      standAt apos.atName
      let (f, first) ← holding [ov] (getMethod ov m pl)
      callWith pos f first (backTo pos (starEach [] X.env)) (backToKw pos (keywordEach [] X.env))) := by rfl) :
    PE X (.Call (.Attribute o m apos) [] [] pos) (tMethS C m sp dvs E ta tNil) := by
  refine ⟨fun pins s σ H Q I h => ?_⟩
  refine PySem.W.methodCall_KW (pl := pl) (thn (he.run pins s σ H _ I h) fun u s1 ⟨x, H1, I1, rx, a, dx, fs, ex, ea, l, q⟩ => ?_) ht
  subst ex
  obtain rfl : u = Value.ref a := rx
  refine getmeth_ok I1 ea c hm l ?_
  exact PySem.W.callWith_K0 (first := [.ref a]) I1.kIn hm.kp (run_fnSD (us := [.ref a]) (vs := [.ref a]) F hr hb hd (hx σ) I1 (.cons rfl .nil) q)
def tMakeS (C : Addr) (sp : Sp) (dvs : List V) (E : L2.St → XK) (t : TA) : TE := fun σ H Q => t σ H fun vs H1 => ∀ x dx, H1 x = none → H1 dx = none → dx ≠ x →
  sp (.ref x :: (vs ++ dvs)) (upd (upd H1 dx (.own x)) x (.ins C dx [])) (fun v H2 => v = .non ∧ Q (.ref x) H2) (E σ)
theorem run_makeS {pins : List (Addr × Obj)} {σ : L2.St} {H : Hp} {s : Shared} {Q : VK} {us : List Value} {vs : List V} (M : L2.Mk X.K C f) (F : FnOk X.prog X.w X.K X.mg X.base CX k f fd ps sp) (hr : Room (k + 1) X.A) (hb : Binds X.K fd ps ds) (hd : Vals dvs ds)
    (hx : PassesAt CX X σ (E σ)) (I : Inv X pins σ H s) (r : Vals vs us)
    (h : ∀ x dx, H x = none → H dx = none → dx ≠ x → sp (.ref x :: (vs ++ dvs)) (upd (upd H dx (.own x)) x (.ins C dx [])) (fun v H2 => v = .non ∧ Q (.ref x) H2) (E σ)) :
    wpAny (model X.prog X.w) X.A (call (.ref C) us) (EP X pins σ Q) X.xe s := by
  have hq := h (s.heap.objs.size + 1) s.heap.objs.size (I.hok.fresh (Nat.le_succ _)) (I.hok.fresh (Nat.le_refl _)) (Nat.ne_of_lt (Nat.lt_succ_self _))
  have I2 := Inv.made (C := C) I
  have r2 : Vals (V.ref (s.heap.objs.size + 1) :: (vs ++ dvs)) (Value.ref (s.heap.objs.size + 1) :: (us ++ ds)) := .cons rfl (r.append hd)
  have hl : (Value.ref (s.heap.objs.size + 1) :: us ++ ds).length = ps.length := by
    have e := r2.length
    rw [F.len _ _ _ _ hq] at e
    exact e.symm
  refine wpAny_call (make_map (f := f) I.kIn M.makes M.init (beq_iff_eq.mp M.fn) (codeAny_mono (F.run _ X.stack _ _ ⟨Value.ref (s.heap.objs.size + 1) :: us, []⟩ (Value.ref (s.heap.objs.size + 1) :: (us ++ ds)) _ _ (E σ) (hr.make C us [])
    (I2.env0.make C us []) (hb _ (Value.ref (s.heap.objs.size + 1) :: us) I2.kIn hl) r2 hq) fun r s' hq' => ?_))
  cases r with
  | error e => exact hx pins _ _ e s' I2 hq'
  | ok fl =>
    cases fl with
    | ret u =>
      obtain ⟨v, H', I3, rv, ev, q3⟩ := I2.after hq'
      subst ev
      exact ⟨rv, ⟨V.ref (s.heap.objs.size + 1), H', I3, rfl, q3⟩⟩
    | next => exact False.elim hq'
    | brk => exact False.elim hq'
    | cont => exact False.elim hq'
theorem pe_makeZ (M : L2.Mk X.K C f) (F : FnOk X.prog X.w X.K X.mg X.base CX k f fd ps sp) (hr : Room (k + 1) X.A) (hg : Gl X x) (hm : X.mg x = some (.ref C)) (hb : Binds X.K fd ps ds) (hd : Vals dvs ds) (hx : ∀ σ, PassesAt CX X σ (E σ))
    (ha : PA X (e :: es) t) (hdb : (x == ("__debug__" : Str)) = false := by decide) (he : starEach (e :: es) X.env = (false, eval e X.env) :: starEach es X.env := by exact se_of rfl) (hpl : (backTo pos (starEach es X.env)).any (·.1) = false := by exact pl_of rfl) :
    PE X (.Call (.Name x p) (e :: es) [] pos) (tMakeS C sp dvs E t) := by
  refine ⟨fun pins s σ H Q I h => ?_⟩
  refine wpAny_Call_Name_kw (ld_glob I hg hm ?_ hdb)
  refine PySem.W.callWith_K (h₀ := X.base) I.ok.mod.kin M.kp (thn (ha.run pos pins s σ H _ I h) fun us s1 ⟨vs, H1, I1, r, q⟩ => ⟨I1.kIn, ?_⟩) he hpl
  exact run_makeS M F hr hb hd (hx σ) I1 r q
theorem pe_makeZ0 (M : L2.Mk X.K C f) (F : FnOk X.prog X.w X.K X.mg X.base CX k f fd ps sp) (hr : Room (k + 1) X.A) (hg : Gl X x) (hm : X.mg x = some (.ref C)) (hb : Binds X.K fd ps ds) (hd : Vals dvs ds) (hx : ∀ σ, PassesAt CX X σ (E σ))
    (hdb : (x == ("__debug__" : Str)) = false := by decide) : PE X (.Call (.Name x p) [] [] pos) (tMakeS C sp dvs E tNil) := by
  refine ⟨fun pins s σ H Q I h => ?_⟩
  refine wpAny_Call_Name_kw (ld_glob I hg hm ?_ hdb)
  exact PySem.W.callWith_K0 I.kIn M.kp (run_makeS (us := []) M F hr hb hd (hx σ) I .nil h)
end
section
variable {C : Kx} {a b c e o : Expr} {es rest : List Expr} {pos p apos : Pos} {x m cn : Str} {ma : MA} {mo : M} {fn : Fn} {k n : Nat} {dfl : List P} {f : Addr}
/-- f(e, ..) with defaults behind -/
def eCallD (n : Nat) (dfl : List P) (f : Fn) (ma : MA) : M := fun sl S => (ma sl S).bind fun ds S1 => if ds.length = n then f (ds ++ dfl.map .p) S1 else .no
theorem len_app {ds : List D} {dfl : List P} {n : Nat} (h : ds.length = n) : (ds ++ dfl.map D.p).length = n + dfl.length := by rw [List.length_append, List.length_map, h]
theorem ej_callD (hF : C.form k (He.ga C.X.K x) fn n dfl) (hk : PySem.W.keepIn C.X.K (.ref (He.ga C.X.K x)) = true) (hm : C.X.mg x = some (.ref (He.ga C.X.K x))) (hr : Room k C.X.A) (h : Aj C ma (e :: es)) (hg : Gl C.X x := by rfl) (hdb : (x == ("__debug__" : Str)) = false := by decide) (he : Se C e es := by exact se_of rfl) (hpl : Pl C es pos := by exact pl_of rfl) :
    Ej C (eCallD n dfl fn ma) (.Call (.Name x p) (e :: es) [] pos) := .mk fun sl S σ F R H hs hr' Q post => by
  obtain ⟨fd, ps, ds, dvs, h1, h2, h3, h4⟩ := hF
  refine ED.of (pe_callSD h1 hr hg hm hk h2 h3 (fun σ => passAt C.tk σ) pa_d hdb he hpl) (h sl S σ F R H hs hr' _ (Post.bind post fun ds S1 vs F1 R1 H1 _ rx rep1 s1 r1 post1 => ?_))
  by_cases hl : ds.length = n
  · rw [if_pos hl] at post1
    have rr := rx.append (RelAll.of_p (R := R1) (h4 F1))
    exact ⟨by rw [rr.length, len_app hl], C.G, F1, R1, S1, _, rep1, rr, post_of post1⟩
  · rw [if_neg hl] at post1; exact post1.elim
/-- o.m(..), o of the class cn -/
def eMeth (cn m : Str) (n : Nat) (dfl : List P) (f : Fn) (mo : M) (ma : MA) : M := fun sl S => (mo sl S).bind fun d S1 => match insOf S1 d with
  | some (c, ks, vs) => if c = cn ∧ lookF ks vs m = (none : Option D) then (ma sl S1).bind fun ds S2 => if ds.length = n then f (d :: (ds ++ dfl.map .p)) S2 else .no else .no
  | none => .no
theorem meth_read {E : L2.St → XK} {sp : Sp} {dvs : List V} {t : TA} {σ : L2.St} {F H : Hp} {R : List Addr} {S : Store} {sl : Slots} {Q : VK} (hE : E = WE C.W) (hsp : sp = spF C.K (n + 1 + dfl.length) fn) (h4 : ∀ F, RpAll C.K F dvs dfl) (h1 : Ej C mo o)
    (h2 : ∀ sl S σ F R H, SlR C.K F R σ sl → Rep C.K C.G F R S H → ∀ Q : List V → Hp → Prop, Post C σ F R (RelAll C.K) Q (ma sl S) → t σ H Q) (hs : SlR C.K F R σ sl) (hr : Rep C.K C.G F R S H) (post : Post C σ F R (RelD C.K) Q (eMeth cn m n dfl fn mo ma sl S)) :
    tMethS (He.ga C.X.K cn) m sp dvs E (ED C.X o) t σ H Q := by
  subst hE hsp
  refine h1 sl S σ F R H hs hr _ (Post.bind post fun d S1 x F1 R1 H1 _ rx rep1 s1 r1 post1 => ?_)
  cases hi : insOf S1 d with
  | none => simp only [hi] at post1; exact post1.elim
  | some q =>
    obtain ⟨c, ks, vs⟩ := q
    simp only [hi] at post1
    by_cases hc : c = cn ∧ lookF ks vs m = (none : Option D)
    · rw [if_pos hc] at post1
      obtain ⟨rfl, hlk⟩ := hc
      obtain ⟨a, dx, fs, rfl, ea, rfl, hv⟩ := insOf_at rx rep1 hi
      have hn := lookF_at (f := m) hv
      rw [hlk] at hn
      refine ⟨a, dx, fs, rfl, ea, hn, h2 sl S1 σ F1 R1 H1 (hs.mono s1 r1) rep1 _ (Post.bind post1 fun ds S2 vs' F2 R2 H2 _ rd rep2 s2 r2 post2 => ?_)⟩
      by_cases hl : ds.length = n
      · rw [if_pos hl] at post2
        have rr := RelAll.append rd (RelAll.of_p (R := R2) (h4 F2))
        refine ⟨by rw [List.length_cons, rr.length, len_app hl]; omega, C.G, F2, R2, S2, _, rep2, .cons (rx.mono s2 r2) rr, post_of post2⟩
      · rw [if_neg hl] at post2; exact post2.elim
    · rw [if_neg hc] at post1; exact post1.elim
theorem ej_meth {pl : Sem Bool} (hc : Cls C.X.K (He.ga C.X.K cn)) (hm : Meth C.X.K (He.ga C.X.K cn) m f) (hF : C.form k f fn (n + 1) dfl) (hr : Room k C.X.A) (h1 : Ej C mo o) (h2 : Aj C ma (e :: es)) (he : Se C e es := by exact se_of rfl) (hpl : Pl C es pos := by exact pl_of rfl)
    (ht : eval (.Call (.Attribute o m apos) (e :: es) [] pos) C.X.env = (do
      let ov ← eval o C.X.env
      standAt apos.atName
      let (f, first) ← holding [ov] (getMethod ov m pl)
      callWith pos f first (backTo pos (starEach (e :: es) C.X.env)) (backToKw pos (keywordEach [] C.X.env))) := by rfl) : Ej C (eMeth cn m n dfl fn mo ma) (.Call (.Attribute o m apos) (e :: es) [] pos) := .mk fun sl S σ F R H hs hr' Q post => by
  obtain ⟨fd, ps, ds, dvs, g1, g2, g3, g4⟩ := hF
  exact ED.of (pe_methZ (pl := pl) pe_d hc hm g1 hr g2 g3 (fun σ => passAt C.tk σ) pa_d he hpl ht) (meth_read rfl rfl g4 h1 h2 hs hr' post)
theorem ej_meth0 {pl : Sem Bool} (hc : Cls C.X.K (He.ga C.X.K cn)) (hm : Meth C.X.K (He.ga C.X.K cn) m f) (hF : C.form k f fn 1 dfl) (hr : Room k C.X.A) (h1 : Ej C mo o)
    (ht : eval (.Call (.Attribute o m apos) [] [] pos) C.X.env = (do
      let ov ← eval o C.X.env
      standAt apos.atName
      let (f, first) ← holding [ov] (getMethod ov m pl)
      callWith pos f first (backTo pos (starEach [] C.X.env)) (backToKw pos (keywordEach [] C.X.env))) := by rfl) : Ej C (eMeth cn m 0 dfl fn mo aN) (.Call (.Attribute o m apos) [] [] pos) := .mk fun sl S σ F R H hs hr' Q post => by
  obtain ⟨fd, ps, ds, dvs, g1, g2, g3, g4⟩ := hF
  exact ED.of (pe_methZ0 (pl := pl) pe_d hc hm g1 hr g2 g3 (fun σ => passAt C.tk σ) ht) (meth_read (n := 0) rfl rfl g4 h1 (fun sl S σ F R H hs hr Q post => (post.okv .nil hr : Q [] H)) hs hr' post)
/-! C(..): a live instance; or one that stands still from now on -/
def eMake (cn : Str) (n : Nat) (dfl : List P) (f : Fn) (ma : MA) : M := fun sl S => (ma sl S).bind fun ds S1 => if ds.length = n then match f (.ref S1.length :: (ds ++ dfl.map .p)) (S1 ++ [.ins cn [] []]) with
    | .ok (.p .non) S2 => .ok (.ref S1.length) S2
    | .exc x S2 => .exc x S2
    | _ => .no
  else .no
def eMakeZ (cn : Str) (n : Nat) (dfl : List P) (f : Fn) (ma : MA) : M := fun sl S => froz S.length (eMake cn n dfl f ma sl S)
theorem make_read {E : L2.St → XK} {sp : Sp} {dvs : List V} {t : TA} {σ : L2.St} {F H : Hp} {R : List Addr} {S : Store} {sl : Slots} {Q : VK} (hE : E = WE C.W) (hsp : sp = spF C.K (n + 1 + dfl.length) fn) (h4 : ∀ F, RpAll C.K F dvs dfl)
    (h2 : ∀ sl S σ F R H, SlR C.K F R σ sl → Rep C.K C.G F R S H → ∀ Q : List V → Hp → Prop, Post C σ F R (RelAll C.K) Q (ma sl S) → t σ H Q) (hs : SlR C.K F R σ sl) (hr : Rep C.K C.G F R S H) (post : Post C σ F R (RelD C.K) Q (eMake cn n dfl fn ma sl S)) :
    tMakeS (He.ga C.X.K cn) sp dvs E t σ H Q := by
  subst hE hsp
  refine h2 sl S σ F R H hs hr _ (Post.bind post fun ds S1 vs F1 R1 H1 _ rd rep1 s1 r1 post1 => ?_)
  intro x dx nx nd ne
  by_cases hl : ds.length = n
  · rw [if_pos hl] at post1
    have hq : ∀ b, upd (upd H1 dx (.own x)) x (.ins (He.ga C.X.K cn) dx []) b = match two x (.ins (He.ga C.X.K cn) dx []) dx (.own x) b with | some o => some o | none => H1 b := fun b => by
      unfold upd two
      by_cases hb : b = x
      · rw [if_pos hb, if_pos hb]
      · rw [if_neg hb, if_neg hb]
        by_cases hb2 : b = dx
        · rw [if_pos hb2, if_pos hb2]
        · rw [if_neg hb2, if_neg hb2]
    have rep2 := rep1.push (a := x) (c := .ins cn [] []) (q := two x (.ins (He.ga C.X.K cn) dx []) dx (.own x)) (H' := upd (upd H1 dx (.own x)) x (.ins (He.ga C.X.K cn) dx [])) (fun b o z => by
      rcases two_some z with ⟨rfl, _⟩ | ⟨rfl, _⟩
      · exact nx
      · exact nd) (.ins (fs := []) ne rfl .nil) hq
    have rr := (rd.append (RelAll.of_p (R := R1) (h4 F1))).mono (Same.refl _) (pre_app (t := [x]))
    refine ⟨by rw [List.length_cons, rr.length, len_app hl]; omega, C.G, F1, R1 ++ [x], _, _, rep2, .cons (show RelD C.K F1 (R1 ++ [x]) (.ref x) (.ref S1.length) from ⟨x, last_get rep1.len, rfl⟩) rr, ?_⟩
    cases hf : fn (.ref S1.length :: (ds ++ dfl.map .p)) (S1 ++ [.ins cn [] []]) with
    | no => simp only [hf] at post1; exact post1.elim
    | exc xc S2 =>
      simp only [hf] at post1
      exact fun cls d F' R' H' h1 h2 h3 h4 => post1 cls d F' R' H' h1 h2 h3 (pre_trans pre_app h4)
    | ok d S2 =>
      cases d with
      | ref k => simp only [hf] at post1; exact post1.elim
      | p q =>
        cases q with
        | non =>
          simp only [hf] at post1
          intro v F' R' H' h1 h2 h3 h4
          cases (show Rp C.K F' v .non from h1)
          exact ⟨rfl, post1 (.ref x) F' R' H' (show RelD C.K F' R' (.ref x) (.ref S1.length) from ⟨x, pre_get h4 (last_get rep1.len), rfl⟩) h2 h3 (pre_trans pre_app h4)⟩
        | _ => simp only [hf] at post1; exact post1.elim
  · rw [if_neg hl] at post1; exact post1.elim
theorem froz_postC {σ : L2.St} {F H : Hp} {R : List Addr} {S : Store} {Q : VK} {r : Rs D} (rep : Rep C.K C.G F R S H) (post : Post C σ F R (RelD C.K) Q (froz S.length r)) : Post C σ F R (RelD C.K) Q r := by
  have := froz_post (E := WE C.W σ) rep (post_of post)
  cases r with
  | ok d S => exact this
  | exc x S => exact this
  | no => exact this
theorem ej_make (hM : L2.Mk C.X.K (He.ga C.X.K x) f) (hm : C.X.mg x = some (.ref (He.ga C.X.K x))) (hF : C.form k f fn (n + 1) dfl) (hr : Room (k + 1) C.X.A) (h2 : Aj C ma (e :: es)) (hg : Gl C.X x := by rfl) (hdb : (x == ("__debug__" : Str)) = false := by decide) (he : Se C e es := by exact se_of rfl) (hpl : Pl C es pos := by exact pl_of rfl) :
    Ej C (eMake x n dfl fn ma) (.Call (.Name x p) (e :: es) [] pos) := .mk fun sl S σ F R H hs hr' Q post => by
  obtain ⟨fd, ps, ds, dvs, g1, g2, g3, g4⟩ := hF
  exact ED.of (pe_makeZ hM g1 hr hg hm g2 g3 (fun σ => passAt C.tk σ) pa_d hdb he hpl) (make_read rfl rfl g4 h2 hs hr' post)
theorem ej_makeZ (hM : L2.Mk C.X.K (He.ga C.X.K x) f) (hm : C.X.mg x = some (.ref (He.ga C.X.K x))) (hF : C.form k f fn (n + 1) dfl) (hr : Room (k + 1) C.X.A) (h2 : Aj C ma (e :: es)) (hg : Gl C.X x := by rfl) (hdb : (x == ("__debug__" : Str)) = false := by decide) (he : Se C e es := by exact se_of rfl) (hpl : Pl C es pos := by exact pl_of rfl) :
    Ej C (eMakeZ x n dfl fn ma) (.Call (.Name x p) (e :: es) [] pos) := .mk fun sl S σ F R H hs hr' Q post =>
  ej_make hM hm hF hr h2 hg hdb he hpl sl S σ F R H hs hr' Q (froz_postC hr' post)
theorem ej_make0 (hM : L2.Mk C.X.K (He.ga C.X.K x) f) (hm : C.X.mg x = some (.ref (He.ga C.X.K x))) (hF : C.form k f fn 1 dfl) (hr : Room (k + 1) C.X.A) (hg : Gl C.X x := by rfl) (hdb : (x == ("__debug__" : Str)) = false := by decide) :
    Ej C (eMake x 0 dfl fn aN) (.Call (.Name x p) [] [] pos) := .mk fun sl S σ F R H hs hr' Q post => by
  obtain ⟨fd, ps, ds, dvs, g1, g2, g3, g4⟩ := hF
  exact ED.of (pe_makeZ0 hM g1 hr hg hm g2 g3 (fun σ => passAt C.tk σ) hdb) (make_read (n := 0) rfl rfl g4 (fun sl S σ F R H hs hr Q post => (post.okv .nil hr : Q [] H)) hs hr' post)
theorem ej_make0Z (hM : L2.Mk C.X.K (He.ga C.X.K x) f) (hm : C.X.mg x = some (.ref (He.ga C.X.K x))) (hF : C.form k f fn 1 dfl) (hr : Room (k + 1) C.X.A) (hg : Gl C.X x := by rfl) (hdb : (x == ("__debug__" : Str)) = false := by decide) :
    Ej C (eMakeZ x 0 dfl fn aN) (.Call (.Name x p) [] [] pos) := .mk fun sl S σ F R H hs hr' Q post =>
  ej_make0 hM hm hF hr hg hdb sl S σ F R H hs hr' Q (froz_postC hr' post)
end
end Z

namespace Z
open PySem PySem.Spec PyProof.Rows L2
/-! ### the text of data -/
mutual
theorem py_noDict : ∀ (p : P), (py p).hasDict = false
  | .non => by simp only [py, PyData.hasDict]
  | .bl _ => by simp only [py, PyData.hasDict]
  | .int _ => by simp only [py, PyData.hasDict]
  | .str _ => by simp only [py, PyData.hasDict]
  | .tup ps => by simp only [py, PyData.hasDict]; exact py_noDicts ps
  | .lst ps => by simp only [py, PyData.hasDict]; exact py_noDicts ps
  | .dic _ _ _ => by simp only [py, PyData.hasDict]
  | .ins _ _ _ => by simp only [py, PyData.hasDict]
  | .glo _ => by simp only [py, PyData.hasDict]
  | .ty _ => by simp only [py, PyData.hasDict]
  | .scr _ => by simp only [py, PyData.hasDict]
theorem py_noDicts : ∀ (ps : List P), PyData.hasDictAll (pyAll ps) = false
  | [] => by simp only [pyAll, PyData.hasDictAll]
  | p :: ps => by simp only [pyAll, PyData.hasDictAll, Bool.or_eq_false_iff]; exact ⟨py_noDict p, py_noDicts ps⟩
end
def shOk (p : P) : Bool := fin dpt p && ((py p).showable && decide ((py p).shown.length ≤ 1000000))
def reprP : List P → Option P
  | [p] => if shOk p = true then some (.str (py p).shown) else none
  | _ => none
section
variable {X : Cx}
theorem call_repr (hg : X.A.guards = some []) (hu : X.A.units + 200 < cLine) : CallR X (.builtin "repr") (fun xs H Q => ∃ v d, xs = [v] ∧ Dp X.K H v d ∧ d.hasDict = false ∧ d.depth ≤ 100 ∧ d.showable = true ∧ d.shown.length ≤ 1000000 ∧ Q (.str d.shown) H) := by
  intro pins s σ H xs us Q I r h
  obtain ⟨v, d, rfl, hd, nd, hdp, hsh, hln, q⟩ := h
  have hz : d.shown.length ≤ sizeLine := Nat.le_trans hln (by rw [sizeLine_eq]; omega)
  cases r with
  | cons r1 r2 =>
    cases r2
    obtain ⟨as, rd⟩ := Dp.reads I d _ _ hd r1
    have ref : ∀ {a : Addr}, Reads s.heap (.ref a) d as → wpAny (model X.prog X.w) X.A (call (.builtin "repr") [.ref a]) (EP X pins σ Q) X.xe s := fun {a} rd =>
      repr_of_reads' rd hsh (PyData.noDict_hsm nd) hg (by omega) (fun _ _ e => e) (fun h' u tk hk => ⟨.str d.shown, H, I.kept hk, ⟨u, rfl⟩, q⟩) hz
    cases hd with
    | non => cases r1; simp only [PyData.shown] at q; exact PySem.P.repr_of_none ⟨.str _, H, I.tok _, ⟨_, rfl⟩, q⟩
    | bl b =>
      cases r1
      simp only [PyData.shown] at q
      exact PySem.P.repr_of_bool ⟨.str _, H, I.tok _, ⟨_, rfl⟩, by cases b <;> exact q⟩
    | int i =>
      obtain ⟨t, rfl⟩ := r1
      simp only [PyData.shown] at q
      exact PySem.P.repr_of_int (by simpa only [PyData.showable, decide_eq_true_eq] using hsh) ⟨.str _, H, I.tok _, ⟨_, rfl⟩, q⟩
    | str z =>
      obtain ⟨t, rfl⟩ := r1
      simp only [PyData.shown] at q hz
      exact PySem.P.repr_of_str ⟨.str _, H, I.tok _, ⟨_, rfl⟩, q⟩ hz
    | lst e al => cases (show _ = _ from r1); exact ref rd
    | tup e al => cases (show _ = _ from r1); exact ref rd
theorem cv_repr {K : Fr} : CallV K (fun xs H Q => ∃ v d, xs = [v] ∧ Dp K.K H v d ∧ d.hasDict = false ∧ d.depth ≤ 100 ∧ d.showable = true ∧ d.shown.length ≤ 1000000 ∧ Q (.str d.shown) H) reprP := fun ps z vs F H Q e hx s k => by
  unfold reprP at e
  split at e
  · obtain ⟨v, rfl, h⟩ := vw1 hx
    obtain ⟨hc, rfl⟩ := if_some e
    unfold shOk at hc
    simp only [Bool.and_eq_true, decide_eq_true_eq] at hc
    obtain ⟨h1, h2, h3⟩ := hc
    exact ⟨v, _, rfl, rp_dp dpt _ _ h1 (h.rd s), py_noDict _, Nat.le_trans (fin_lay dpt _ h1).2 (by decide), h2, h3, k _ F H (.str _) (Grow.refl s)⟩
  · cases e
end
section
variable {C : Kx} {e : Expr} {es : List Expr} {pos p : Pos} {ma : MA}
theorem ej_repr (hG : C.X.A.guards = some []) (hr : Room 0 C.X.A) (hm : C.X.mg "repr" = none) (h : Aj C ma (e :: es)) (hg : Gl C.X "repr" := by rfl) (he : Se C e es := by exact se_of rfl) (hpl : Pl C es pos := by exact pl_of rfl) : Ej C (eF reprP ma) (.Call (.Name "repr" p) (e :: es) [] pos) :=
  ej_callB (call_repr hG (by have := hr.un; omega)) cv_repr hm (by decide +kernel) h hg (he := he) (hpl := hpl)
end
/-! ### defs that are called where no text is under way -/
structure FnG (P : Program) (w : World) (K : PySem.W.Frag) (mg : Str → Option Value) (base : Heap) (CX : CXT) (k : Nat) (f : Addr) (fd : FuncData) (ps : List Str) (sp : Sp) : Prop where
  len : ∀ vs H Q E, sp vs H Q E → vs.length = ps.length
  run : ∀ (A : Around) (outer : List Env) (s : Shared) (H : Hp) (args : Args) (us : List Value) (vs : List V) (Q : VK) (E : XK), A.guards = some [] → Room k A → Env0 P w K mg base A outer s H → BindsTo s fd args (ps.zip us) → Vals vs us → sp vs H Q E →
    codeAny (model P w) A (.call (.ref f) args) (CR CX outer P w H s Q E) s
section
variable {P : Program} {w : World} {K : PySem.W.Frag} {mg : Str → Option Value} {base : Heap} {CX : CXT} {k : Nat} {f : Addr} {fd : FuncData} {N ps : List Str} {sp sp' : Sp}
theorem FnG.of (F : FnOk P w K mg base CX k f fd ps sp) : FnG P w K mg base CX k f fd ps sp := ⟨F.len, fun A outer s H args us vs Q E _ => F.run A outer s H args us vs Q E⟩
theorem FnG.mono {j : Nat} (F : FnG P w K mg base CX j f fd ps sp) (h : j ≤ k) : FnG P w K mg base CX k f fd ps sp := ⟨F.len, fun A outer s H args us vs Q E g hr => F.run A outer s H args us vs Q E g (hr.mono h)⟩
theorem FnG.imp (F : FnG P w K mg base CX k f fd ps sp) (h : ∀ vs H Q E, sp' vs H Q E → sp vs H Q E) : FnG P w K mg base CX k f fd ps sp' := ⟨fun vs H Q E q => F.len vs H Q E (h vs H Q E q), fun A outer s H args us vs Q E g hr e b r q => F.run A outer s H args us vs Q E g hr e b r (h vs H Q E q)⟩
theorem fnG_of {name qual : Str} {params : Arguments} {body : List Stmt} {scope : Scope} {dV kV doc pm cdv ct oc : Value} {an od : Option Addr} {osl : Array (Option Value)}
    (lk : K.lookup f = some ⟨oc, od, .func (PySem.W.fnOf name qual params body scope dV kV doc pm an cdv ct), osl⟩) (hcd : PySem.W.codeIn K cdv qual = true) (S : FnScope N ps scope) (len : ∀ vs H Q E, sp vs H Q E → vs.length = ps.length)
    (hb : ∀ (A : Around) (outer : List Env) (s : Shared) (H : Hp) (vs : List V) (Q : VK) (E : XK), A.guards = some [] → Room k (A.deeper (envOfC qual scope s.heap.objs.size f cdv)) → sp vs H Q E → ∃ t, PSs (cxOf CX P w K mg base N qual scope f cdv A outer s H E) body t ∧ t { nx := fun _ H' => Q .non H', rt := Q } (L2.start N vs) H) :
    FnG P w K mg base CX (k + 1) f (PySem.W.fnOf name qual params body scope dV kV doc pm an cdv ct) ps sp where
  len := len
  run := by
    intro A outer s H args us vs Q E g room env bind rel want
    obtain ⟨t, body_t, at_t⟩ := hb A outer s H vs Q E g (room.deeper _) want
    have old : ∀ b o, base.get? b = some o → s.heap.get? b = some o := fun b o e => (env.bs b o e).1
    have KX : K.In s.heap := env.mod.kin.keeps old
    refine codeAny_call_function room.depth (KX _ _ lk) rfl S.co S.gen rfl (PySem.W.codeRec_of KX hcd) (bind _ _ _ _ (wpAny_newFunctionEnv_cells S.kind ?kinds fun e' he s1 new => ?_))
    case kinds =>
      rintro ⟨n, v⟩ hy
      refine (S.par n (List.of_mem_zip hy).1).imp id fun q => ⟨q, PySem.W.cellsFrom_some _ _ _ (.inl q)⟩
    cases he
    refine ⟨(env.mod.nolimit.keeps old).keeps new.toInCall.keep, codeAny_func (wpAny_mono (body_t.run [] s1 (L2.start N vs) H _ (inv_start S room.hd env (len _ _ _ _ want) rel new) at_t) ?_ fun _ _ z => z)⟩
    rintro (_ | _ | _ | u) s' h
    · obtain ⟨_, H', J, q⟩ := h
      exact ⟨.non, H', J.os, J.bare, J.base, J.hok, rfl, q⟩
    · obtain ⟨_, _, _, q⟩ := h
      exact q.elim
    · obtain ⟨_, _, _, q⟩ := h
      exact q.elim
    · obtain ⟨v, _, H', J, r, q⟩ := h
      exact ⟨v, H', J.os, J.bare, J.base, J.hok, r, q⟩
end
section
variable {X : Cx} {CX : CXT} {k : Nat} {f : Addr} {fd : FuncData} {ps : List Str} {sp : Sp} {E : L2.St → XK} {x : Str} {p pos : Pos} {e : Expr} {es : List Expr} {t : TA}
theorem pe_callG (F : FnG X.prog X.w X.K X.mg X.base CX k f fd ps sp) (g : X.A.guards = some []) (hr : Room k X.A) (hg : Gl X x) (hm : X.mg x = some (.ref f)) (hk : PySem.W.keepIn X.K (.ref f) = true) (hb : Binds X.K fd ps []) (hx : ∀ σ, PassesAt CX X σ (E σ))
    (ha : PA X (e :: es) t) (hdb : (x == ("__debug__" : Str)) = false := by decide) (he : starEach (e :: es) X.env = (false, eval e X.env) :: starEach es X.env := by exact se_of rfl) (hpl : (backTo pos (starEach es X.env)).any (·.1) = false := by exact pl_of rfl) :
    PE X (.Call (.Name x p) (e :: es) [] pos) (fun σ H Q => t σ H fun vs H1 => sp vs H1 Q (E σ)) := by
  constructor
  intro pins s σ H Q I h
  refine wpAny_Call_Name_kw (ld_glob I hg hm (PySem.W.callWith_K (h₀ := X.base) I.ok.mod.kin hk (thn (ha.run pos pins s σ H _ I h) ?_) he hpl) hdb)
  rintro us s1 ⟨vs, H1, I1, r, q⟩
  refine ⟨I1.kIn, ?_⟩
  have hl : (us ++ []).length = ps.length := by rw [List.append_nil, ← r.length]; exact F.len _ _ _ _ q
  have b := hb s1 us I1.kIn hl
  rw [List.append_nil] at b
  refine wpAny_call (codeAny_mono (F.run X.A X.stack s1 H1 ⟨us, []⟩ us vs Q (E σ) g hr I1.env0 b r q) ?_)
  rintro (er | _ | _ | _ | u) s' hq
  · exact hx σ pins H1 s1 er s' I1 hq
  · exact hq.elim
  · exact hq.elim
  · exact hq.elim
  · exact I1.after hq
end
def OkG (P : Program) (w : World) (K : PySem.W.Frag) (mg : Str → Option Value) (base : Heap) (k : Nat) (x : Str) (ps : List Str) (f : Fn) : Prop :=
  ∃ fd, FnG P w K mg base (L2.CX P w) k (He.ga K x) fd ps (spF ⟨K, P, w⟩ ps.length f) ∧ Binds K fd ps [] ∧ PySem.W.keepIn K (.ref (He.ga K x)) = true ∧ mg x = some (.ref (He.ga K x)) ∧ ∃ oc od osl, K.lookup (He.ga K x) = some ⟨oc, od, .func fd, osl⟩
section
variable {P : Program} {w : World} {K : PySem.W.Frag} {mg : Str → Option Value} {base : Heap} {k : Nat} {x : Str} {N ps : List Str} {st : Stmt} {f : Fn} {b : MS}
theorem OkF.g (h : OkF P w K mg base k x ps f) : OkG P w K mg base k x ps f := by
  obtain ⟨fd, h1, h2⟩ := h
  exact ⟨fd, .of h1, h2⟩
theorem OkG.mono {j : Nat} (h : OkG P w K mg base k x ps f) (hj : k ≤ j) : OkG P w K mg base j x ps f := by
  obtain ⟨fd, h1, h2⟩ := h
  exact ⟨fd, h1.mono hj, h2⟩
theorem OkG.imp {f' : Fn} (h : OkG P w K mg base k x ps f) (hf : ∀ G F R S ds H (Q : VK) (E : XK), Rep ⟨K, P, w⟩ G F R S H → PostF ⟨K, P, w⟩ G F R Q E (f' ds S) → PostF ⟨K, P, w⟩ G F R Q E (f ds S)) : OkG P w K mg base k x ps f' := by
  obtain ⟨fd, h1, h2⟩ := h
  exact ⟨fd, h1.imp fun vs H Q E ⟨hl, G, F, R, S, ds, rep, rx, post⟩ => ⟨hl, G, F, R, S, ds, rep, rx, hf G F R S ds H Q E rep post⟩, h2⟩
theorem run_post {K : Fr} {G F : Hp} {R : List Addr} {S0 : Store} {ds : List D} {Q : VK} {E : XK} {C : Kx} (hK : K = C.K) (hG : G = C.G) (hW : C.W = fun cls d _ H => E cls d H) (post : PostF K G F R Q E (runB N.length b ds S0)) :
    PostS C F R { nx := fun _ H' => Q .non H', rt := Q } (b (ent N.length ds) S0) := by
  subst hK hG
  unfold runB at post
  cases hbb : b (ent N.length ds) S0 with
  | nx sl S' =>
    rw [hbb] at post
    exact fun σ' F' R' H' _ h2 h3 h4 => post .non F' R' H' (show RelD C.K F' R' .non (.p .non) from .non) h2 h3 h4
  | rt d S' => rw [hbb] at post; exact post
  | exc x sl S' =>
    rw [hbb] at post
    intro cls d σ' F' R' H' h0 _ h2 h3 h4
    rw [hW]
    exact post cls d F' R' H' h0 h2 h3 h4
  | bk sl S' => rw [hbb] at post; exact post.elim
  | ct sl S' => rw [hbb] at post; exact post.elim
  | no => rw [hbb] at post; exact post.elim
theorem ok_fnG (D : DefAt K mg x st) (S : FnScope N ps (defScope st)) (hb : BindsBy x ps st)
    (body : ∀ (cdv : Value) (A : Around) (outer : List Env) (s : Shared) (H : Hp) (E : XK) (G : Hp), A.guards = some [] → Room k (A.deeper (envOfC x (defScope st) s.heap.objs.size (He.ga K x) cdv)) → Sj (cxZ P w K mg base N x (defScope st) (He.ga K x) cdv A outer s H E G) b (defBody st)) : OkG P w K mg base (k + 1) x ps (runB N.length b) := by
  obtain ⟨⟨fd, Fu⟩, hm⟩ := D
  refine ⟨fd, ?_, Fu.bindsN hb, Fu.kp, hm, let ⟨oc, od, _, _, _, _, _, _, _, osl, _, lk, _⟩ := Fu.ex; ⟨oc, od, osl, lk⟩⟩
  obtain ⟨oc, od, dV, kV, doc, pm, an, cdv, ct, osl, rfl, lk, hcd, _, _⟩ := Fu.ex
  refine fnG_of lk hcd S (fun vs H Q E h => h.1) fun A outer s H vs Q E g hr h => ⟨_, pss_d, ?_⟩
  obtain ⟨hl, G, F, R, S0, ds, rep, rx, post⟩ := h
  exact body cdv A outer s H E G g hr _ S0 _ F R H (ent_rel rx) rep _ (run_post rfl rfl rfl post)
theorem ok_fzG {n : Nat} (h : OkG P w K mg base k x ps (runB n b)) : OkG P w K mg base k x ps (runZ n b) := h.imp fun G F R S ds H Q E rep post => froz_post rep post
end
section
variable {C : Kx} {a b c e : Expr} {es rest : List Expr} {pos p : Pos} {x : Str} {ma : MA} {f : Fn} {k : Nat} {ps : List Str}
abbrev Kx.okG (C : Kx) (k : Nat) (x : Str) (ps : List Str) (f : Fn) : Prop := OkG C.X.prog C.X.w C.X.K C.X.mg C.X.base k x ps f
theorem ej_callG (hF : C.okG k x ps f) (g : C.X.A.guards = some []) (hr : Room k C.X.A) (h : Aj C ma (e :: es)) (hg : Gl C.X x := by rfl) (hdb : (x == ("__debug__" : Str)) = false := by decide) (he : starEach (e :: es) C.X.env = (false, eval e C.X.env) :: starEach es C.X.env := by exact se_of rfl) (hpl : (backTo pos (starEach es C.X.env)).any (·.1) = false := by exact pl_of rfl) :
    Ej C (eCall ps.length f ma) (.Call (.Name x p) (e :: es) [] pos) := .mk fun sl S σ F R H hs hr' Q post => by
  obtain ⟨fd, h1, h2, h3, h4, _⟩ := hF
  refine ED.of (pe_callG h1 g hr hg h4 h3 h2 (fun σ => passAt C.tk σ) pa_d hdb he hpl) (h sl S σ F R H hs hr' _ (Post.bind post fun ds S1 vs F1 R1 H1 _ rx rep1 s1 r1 post1 => ?_))
  by_cases hl : ds.length = ps.length
  · rw [if_pos hl] at post1
    exact ⟨by rw [rx.length]; exact hl, C.G, F1, R1, S1, ds, rep1, rx, post_of post1⟩
  · rw [if_neg hl] at post1; exact post1.elim
end
end Z

namespace Z
open PySem PySem.Spec PyProof.Rows L2
/-! ### tables at the top: a written dict from words to tuples of defs, or to defs -/
def KTup (K : PySem.W.Frag) (a : Addr) (xs : List V) : Prop := ∃ (o : Obj) (its : Array Value) (n : Nat), K.lookup a = some o ∧ o.cls = .type "tuple" ∧ o.data = .seq its n ∧ its.size ≤ sizeLine ∧ Vals xs its.toList
def ktupB (K : PySem.W.Frag) (a : Addr) (xs : List V) : Bool := match K.lookup a with
  | some ⟨.type "tuple", _, .seq its _, _⟩ => decide (its.size ≤ 100) && He.relAll xs its.toList
  | _ => false
theorem ktupB_ok {K : PySem.W.Frag} {a : Addr} {xs : List V} (h : ktupB K a xs = true) : KTup K a xs := by
  unfold ktupB at h
  split at h
  · rename_i od its n sl q
    obtain ⟨h1, h2⟩ := He.ba h
    exact ⟨_, its, n, q, rfl, rfl, Nat.le_trans (of_decide_eq_true h1) (by decide), He.relAll_ok h2⟩
  · cases h
def keyS (e : DictEntry) : Option Str := match e.key with
  | .str x _ => some x
  | _ => none
def keysB (K : PySem.W.Frag) (a : Addr) (ks : List Str) : Bool := match K.lookup a with
  | some ⟨_, _, .dict es _, _⟩ => decide (es.toList.map keyS = ks.map some)
  | _ => false
theorem find_none {z : Str} : ∀ {l : List DictEntry} {ks : List Str}, l.map keyS = ks.map some → z ∉ ks → l.find? (·.key.isStr z) = none ∧ l.any (·.refKey) = false
  | [], _, _, _ => ⟨rfl, rfl⟩
  | e :: r, [], h, _ => by cases h
  | e :: r, k :: ks, h, hz => by
    have h1 : keyS e :: r.map keyS = some k :: ks.map some := h
    injection h1 with h2 h3
    simp only [List.mem_cons, not_or] at hz
    obtain ⟨i1, i2⟩ := find_none h3 hz.2
    unfold keyS at h2
    split at h2
    · rename_i x t q
      cases h2
      have e1 : e.key.isStr z = false := by
        rw [q]
        simp only [Value.isStr]
        exact beq_eq_false_iff_ne.mpr (fun y => hz.1 y.symm)
      have e2 : e.refKey = false := by simp [DictEntry.refKey, q]
      exact ⟨by rw [List.find?_cons, e1]; exact i1, by rw [List.any_cons, e2, i2]; rfl⟩
    · cases h2
theorem keysB_none {K : PySem.W.Frag} {a : Addr} {ks : List Str} (h : keysB K a ks = true) {z : Str} (hz : z ∉ ks) : PySem.W.nsIn K a z = some none := by
  unfold keysB at h
  unfold PySem.W.nsIn
  split at h
  · rename_i es n sl q
    rw [q]
    obtain ⟨h1, h2⟩ := find_none (of_decide_eq_true h) hz
    simp only [h1, h2]
    rfl
  · cases h
/-- what stands in a table: a tuple of defs, or a def -/
inductive Ent where
  | tup (cs : List Str)
  | one (c : Str)
def Ent.p : Ent → P
  | .tup cs => .tup (cs.map .glo)
  | .one c => .glo c
abbrev Tabl := List (Str × Ent)
def tabAt (tab : Tabl) (z : Str) : Option Ent := (tab.find? fun p => decide (p.1 = z)).map (·.2)
def tabB (K : PySem.W.Frag) (x : Str) (tab : Tabl) : Bool := keysB K (He.ga K x) (tab.map (·.1)) && tab.all fun p => match PySem.W.nsIn K (He.ga K x) p.1 with
  | some (some (.ref t)) => match p.2 with
    | .tup cs => decide (cs ≠ []) && ktupB K t (cs.map fun x => V.ref (He.ga K x))
    | .one c => decide (t = He.ga K c)
  | _ => false
structure TabOk (w : World) (K : PySem.W.Frag) (mg : Str → Option Value) (x : Str) (tab : Tabl) : Prop where
  at_ : mg x = some (.ref (He.ga K x))
  dict : ∃ es n, KDict K w (He.ga K x) es n
  no : ∀ z, tabAt tab z = none → PySem.W.nsIn K (He.ga K x) z = some none
  yes : ∀ z e, tabAt tab z = some e → ∃ t, PySem.W.nsIn K (He.ga K x) z = some (some (.ref t)) ∧ ∀ (pg : Program) (F : Hp), Rp ⟨K, pg, w⟩ F (.ref t) e.p
theorem rp_glos {K : Fr} {F : Hp} : ∀ cs : List Str, RpAll K F (cs.map fun x => V.ref (He.ga K.K x)) (cs.map .glo)
  | [] => .nil
  | c :: cs => .cons (.glo c) (rp_glos cs)
theorem tabOk_of {w : World} {K : PySem.W.Frag} {mg : Str → Option Value} {x : Str} {tab : Tabl} (h1 : mg x = some (.ref (He.ga K x))) (h2 : ∃ es n, KDict K w (He.ga K x) es n) (h3 : tabB K x tab = true) : TabOk w K mg x tab := by
  obtain ⟨k1, k2⟩ := He.ba h3
  refine ⟨h1, h2, fun z hz => keysB_none k1 fun hm => ?_, fun z e hz => ?_⟩
  · obtain ⟨p, hp, e⟩ := List.mem_map.mp hm
    unfold tabAt at hz
    rw [Option.map_eq_none_iff, List.find?_eq_none] at hz
    exact hz p hp (decide_eq_true e)
  · unfold tabAt at hz
    cases q : tab.find? fun p => decide (p.1 = z) with
    | none => rw [q] at hz; cases hz
    | some p =>
      rw [q] at hz
      cases hz
      have e1 : p.1 = z := of_decide_eq_true (List.find?_some (p := fun p : Str × Ent => decide (p.1 = z)) q)
      have e2 := List.all_eq_true.mp k2 p (List.mem_of_find?_eq_some q)
      rw [e1] at e2
      split at e2
      · rename_i t ht
        refine ⟨t, ht, fun pg F => ?_⟩
        split at e2
        · rename_i cs hcs
          obtain ⟨e3, e4⟩ := He.ba e2
          show Rp _ F (.ref t) p.2.p
          rw [hcs]
          refine .tupW (.inr (ktupB_ok e4)) (rp_glos cs) ?_
          cases cs with
          | nil => simp at e3
          | cons c cs => rfl
        · rename_i c hc
          show Rp _ F (.ref t) p.2.p
          rw [hc, of_decide_eq_true e2]
          exact .glo c
      · cases e2
section
variable {C : Kx} {a b e : Expr} {pos p : Pos} {m1 : M} {x : Str} {tab : Tabl}
def onStr (f : Str → Store → Rs D) : D → Store → Rs D
  | .p (.str z), S => f z S
  | _, _ => .no
def eTabAt (tab : Tabl) (m1 : M) : M := fun sl S => (m1 sl S).bind (onStr fun z S1 => match tabAt tab z with
  | some e => .ok (.p e.p) S1
  | none => .no)
def onStrB (f : Str → Bool) : D → Store → Rs Bool
  | .p (.str z), S => .ok (f z) S
  | _, _ => .no
def tTab (tab : Tabl) (m1 : M) : MT := fun sl S => (m1 sl S).bind (onStrB fun z => (tabAt tab z).isSome)
def tNTab (tab : Tabl) (m1 : M) : MT := fun sl S => (m1 sl S).bind (onStrB fun z => !(tabAt tab z).isSome)
theorem ed_glob {σ : L2.St} {H : Hp} {Q : VK} (hg : Gl C.X x) (hm : C.X.mg x = some (.ref (He.ga C.X.K x))) (q : Q (.ref (He.ga C.X.K x)) H) (hd : (x == ("__debug__" : Str)) = false := by decide) : ED C.X (.Name x pos) σ H Q := by
  exact ED.of (pe_glob (v := .ref (He.ga C.X.K x)) hg hm rfl hd) q
theorem tj_tabNot (T : TabOk C.X.w C.X.K C.X.mg x tab) (h1 : Ej C m1 a) (hg : Gl C.X x := by rfl) (hd : (x == ("__debug__" : Str)) = false := by decide) (hm : Mk .NotIn (.Name x p) := by first | exact nomark _ | rfl) : Tj C (tNTab tab m1) (.Compare a [.NotIn] [.Name x p] pos) := .mk fun sl S σ F R H hs hr Q post => by
  obtain ⟨es, n, D⟩ := T.dict
  refine TD.of (pt_cmpR (op_notIn_kd D) pe_d pe_d hm) (h1 sl S σ F R H hs hr _ (Post.bind post fun d S1 v F1 R1 H1 _ rx rep1 s1 r1 post1 => ed_glob hg T.at_ ?_ hd))
  unfold onStrB at post1
  split at post1
  · rename_i z _
    cases (show Rp C.K F1 v (.str z) from rx)
    cases hp : tabAt tab z with
    | none => simp only [hp] at post1; exact ⟨z, none, rfl, rfl, T.no z hp, true, rfl, post1.okv rfl rep1⟩
    | some en =>
      simp only [hp] at post1
      obtain ⟨t, e1, e2⟩ := T.yes z en hp
      exact ⟨z, _, rfl, rfl, e1, false, rfl, post1.okv rfl rep1⟩
  · exact post1.elim
theorem tj_tabIn (T : TabOk C.X.w C.X.K C.X.mg x tab) (h1 : Ej C m1 a) (hg : Gl C.X x := by rfl) (hd : (x == ("__debug__" : Str)) = false := by decide) (hm : Mk .In (.Name x p) := by first | exact nomark _ | rfl) : Tj C (tTab tab m1) (.Compare a [.In] [.Name x p] pos) := .mk fun sl S σ F R H hs hr Q post => by
  obtain ⟨es, n, D⟩ := T.dict
  refine TD.of (pt_cmpR (op_in_kd D) pe_d pe_d hm) (h1 sl S σ F R H hs hr _ (Post.bind post fun d S1 v F1 R1 H1 _ rx rep1 s1 r1 post1 => ed_glob hg T.at_ ?_ hd))
  unfold onStrB at post1
  split at post1
  · rename_i z _
    cases (show Rp C.K F1 v (.str z) from rx)
    cases hp : tabAt tab z with
    | none => simp only [hp] at post1; exact ⟨z, none, rfl, rfl, T.no z hp, false, rfl, post1.okv rfl rep1⟩
    | some en =>
      simp only [hp] at post1
      obtain ⟨t, e1, e2⟩ := T.yes z en hp
      exact ⟨z, _, rfl, rfl, e1, true, rfl, post1.okv rfl rep1⟩
  · exact post1.elim
theorem ej_tabAt (T : TabOk C.X.w C.X.K C.X.mg x tab) (h1 : Ej C m1 b) (hg : Gl C.X x := by rfl) (hd : (x == ("__debug__" : Str)) = false := by decide) (hs : PlainIx b := by exact fun _ _ => rfl) : Ej C (eTabAt tab m1) (.Subscript (.Name x p) b pos) := .mk fun sl S σ F R H hsl hr Q post => by
  obtain ⟨es, n, D⟩ := T.dict
  refine ED.of (pe_ix ix_kdict pe_d pe_d hs) (ed_glob hg T.at_ (h1 sl S σ F R H hsl hr _ (Post.bind post fun d S1 v F1 R1 H1 _ rx rep1 s1 r1 post1 => ?_)) hd)
  unfold onStr at post1
  split at post1
  · rename_i z _
    cases (show Rp C.K F1 v (.str z) from rx)
    cases hp : tabAt tab z with
    | none => simp only [hp] at post1; exact post1.elim
    | some en =>
      simp only [hp] at post1
      obtain ⟨t, e1, e2⟩ := T.yes z en hp
      exact ⟨_, z, .ref t, rfl, rfl, ⟨es, n, _, D.at_, D.lit, e1, rfl⟩, post1.okv (show RelD C.K F1 R1 (.ref t) (.p en.p) from e2 _ F1) rep1⟩
  · exact post1.elim
end
/-! ### a local name that holds a def -/
section
variable {X : Cx} {CX : CXT} {k i : Nat} {f : Addr} {fd : FuncData} {ps : List Str} {sp : Sp} {E : L2.St → XK} {x : Str} {p pos : Pos} {e : Expr} {es : List Expr} {t : TA}
abbrev FnTab := List (Str × Nat × Fn)
def fnAt (tab : FnTab) (g : Str) : Option (Nat × Fn) := (tab.find? fun p => decide (p.1 = g)).map (·.2)
def tCallZ (i : Nat) (ok : Addr → Sp → Prop) (E : L2.St → XK) (t : TA) : TE := fun σ H Q => ∃ f sp, σ[i]? = some (some (.ref f)) ∧ ok f sp ∧ t σ H fun vs H1 => sp vs H1 Q (E σ)
theorem pe_callZ {ok : Addr → Sp → Prop} (A : ∀ f sp, ok f sp → ∃ (fd : FuncData) (ps : List Str), FnOk X.prog X.w X.K X.mg X.base CX k f fd ps sp ∧ PySem.W.keepIn X.K (.ref f) = true ∧ Binds X.K fd ps []) (hr : Room k X.A) (hN : X.N[i]? = some x) (hv : Vis X.env.scope x) (hx : ∀ σ, PassesAt CX X σ (E σ)) (ha : PA X (e :: es) t)
    (hdb : (x == ("__debug__" : Str)) = false := by decide) (hcd : (x == ("__classdict__" : Str)) = false := by decide)
    (he : starEach (e :: es) X.env = (false, eval e X.env) :: starEach es X.env := by exact se_of rfl) (hpl : (backTo pos (starEach es X.env)).any (·.1) = false := by exact pl_of rfl) : PE X (.Call (.Name x p) (e :: es) [] pos) (tCallZ i ok E t) := by
  refine ⟨fun pins s σ H Q I h => ?_⟩
  obtain ⟨f, sp, hs, ho, ht⟩ := h
  obtain ⟨fd, ps, F, hk, hb⟩ := A f sp ho
  refine wpAny_Call_Name_kw (thn ((pe_var (pos := p) hN hv hdb hcd).run pins s σ H (fun v H1 => v = .ref f ∧ H1 = H) I ⟨.ref f, hs, rfl, rfl⟩) fun u s1 ⟨v, H1, I1, r1, q1⟩ => ?_)
  obtain ⟨rfl, rfl⟩ := q1
  cases r1
  refine PySem.W.callWith_K (h₀ := X.base) I.ok.mod.kin hk (thn (ha.run pos pins s1 σ _ _ I1 ht) fun us s2 ⟨vs, H2, I2, r, q⟩ => ⟨I2.kIn, ?_⟩) he hpl
  exact run_fnSD (dvs := []) F hr hb .nil (hx σ) I2 r (by rw [List.append_nil]; exact q)
end
section
variable {C : Kx} {e : Expr} {es : List Expr} {pos p : Pos} {x : Str} {ma : MA} {k i : Nat} {tab : FnTab}
def eCallL (tab : FnTab) (i : Nat) (ma : MA) : M := fun sl S => match sl[i]? with
  | some (some (.p (.glo g))) => match fnAt tab g with
    | some (n, f) => eCall n f ma sl S
    | none => .no
  | _ => .no
theorem ej_callL (i : Nat) (A : ∀ q ∈ tab, ∃ ps : List Str, ps.length = q.2.1 ∧ C.ok k q.1 ps q.2.2) (hr : Room k C.X.A) (h : Aj C ma (e :: es)) (hN : C.X.N[i]? = some x := by rfl) (hv : Vis C.X.env.scope x := by first | exact Or.inl rfl | exact Or.inr (Or.inl rfl) | exact Or.inr (Or.inr rfl)) (hdb : (x == ("__debug__" : Str)) = false := by decide) (hcd : (x == ("__classdict__" : Str)) = false := by decide)
    (he : starEach (e :: es) C.X.env = (false, eval e C.X.env) :: starEach es C.X.env := by exact se_of rfl) (hpl : (backTo pos (starEach es C.X.env)).any (·.1) = false := by exact pl_of rfl) : Ej C (eCallL tab i ma) (.Call (.Name x p) (e :: es) [] pos) := .mk fun sl S σ F R H hs hr' Q post => by
  unfold eCallL at post
  split at post
  · rename_i g hi
    split at post
    · rename_i n f hf
      obtain ⟨v, e1, e2⟩ := hs.2 _ _ hi
      cases (show Rp C.K F v (.glo g) from e2)
      unfold fnAt at hf
      cases hq : tab.find? (fun p => decide (p.1 = g)) with
      | none => rw [hq] at hf; cases hf
      | some q =>
        rw [hq] at hf
        have hq1 : q.2 = (n, f) := Option.some.inj hf
        have hg : q.1 = g := of_decide_eq_true (List.find?_some (p := fun p : Str × Nat × Fn => decide (p.1 = g)) hq)
        obtain ⟨ps, hl, hF⟩ := A q (List.mem_of_find?_eq_some hq)
        rw [hq1, hg] at hF
        rw [hq1] at hl
        obtain ⟨fd, h1, h2, h3, h4, _⟩ := hF
        refine ED.of (pe_callZ (i := i) (CX := L2.CX C.X.prog C.X.w) (k := k) (ok := fun f' sp => f' = He.ga C.X.K g ∧ sp = spF C.K ps.length f) (fun f' sp o => by obtain ⟨rfl, rfl⟩ := o; exact ⟨fd, ps, h1, h3, h2⟩) hr hN hv (fun σ => passAt C.tk σ) pa_d hdb hcd he hpl)
          ⟨_, _, e1, ⟨rfl, rfl⟩, h sl S σ F R H hs hr' _ (Post.bind post fun ds S1 vs F1 R1 H1 _ rx rep1 s1 r1 post1 => ?_)⟩
        by_cases hd : ds.length = n
        · rw [if_pos hd] at post1
          exact ⟨by rw [rx.length, hd]; exact hl.symm, C.G, F1, R1, S1, ds, rep1, rx, post_of post1⟩
        · rw [if_neg hd] at post1; exact post1.elim
    · exact post.elim
  · exact post.elim
end
end Z

theorem L2.Room.u16 {k : Nat} {A : PySem.Around} (r : L2.Room k A) : A.units + 16 < PySem.cLine := by have := r.un; omega
namespace Z
open PySem PySem.Spec PyProof.Rows L2
/-! ### defs at any address, with defaults -/
abbrev BindsByD (x qual : Str) (ps : List Str) (st : Stmt) (n m j : Nat) : Prop := ∀ (T : Addr) (kV doc pm : Value) (an : Option Addr) (cdv ct : Value) (us its : List Value), us.length = n → its.length = m →
  ∃ k, bindArgs (PySem.W.fnOf x qual (defArgs st) (defBody st) (defScope st) (.ref T) kV doc pm an cdv ct) ⟨us, []⟩ = seqItems? (.ref T) >>= k ∧ k (some its.toArray) = pure (ps.zip (us ++ its.drop j))
abbrev BindsByN (x qual : Str) (ps : List Str) (st : Stmt) : Prop := ∀ (kV doc pm : Value) (an : Option Addr) (cdv ct : Value) (us : List Value), us.length = ps.length →
  bindArgs (PySem.W.fnOf x qual (defArgs st) (defBody st) (defScope st) .none kV doc pm an cdv ct) ⟨us, []⟩ = pure (ps.zip us)
/-- the def's object, and that it computes fn -/
def OkA (P : Program) (w : World) (K : PySem.W.Frag) (mg : Str → Option Value) (base : Heap) (k : Nat) (x qual : Str) (f : Addr) (st : Stmt) (dvs : List V) (ps : List Str) (fn : Fn) : Prop :=
  ∃ fd, FunD K x qual (defArgs st) (defBody st) (defScope st) dvs [] f fd ∧ FnOk P w K mg base (L2.CX P w) k f fd ps (spF ⟨K, P, w⟩ ps.length fn)
section
variable {P : Program} {w : World} {K : PySem.W.Frag} {mg : Str → Option Value} {base : Heap} {k : Nat} {x qual : Str} {N ps : List Str} {st : Stmt} {fn : Fn} {b : MS} {f : Addr} {dvs : List V}
theorem okA_fn (D : ∃ fd, FunD K x qual (defArgs st) (defBody st) (defScope st) dvs [] f fd) (S : FnScope N ps (defScope st))
    (body : ∀ (cdv : Value) (A : Around) (outer : List Env) (s : Shared) (H : Hp) (E : XK) (G : Hp), Room k (A.deeper (envOfC qual (defScope st) s.heap.objs.size f cdv)) → Sj (cxZ P w K mg base N qual (defScope st) f cdv A outer s H E G) b (defBody st)) : OkA P w K mg base (k + 1) x qual f st dvs ps (runB N.length b) := by
  obtain ⟨fd, Fu⟩ := D
  refine ⟨fd, Fu, Fu.ok S (fun vs H Q E h => h.1) (fun cdv A outer s H vs Q E hr h => ?_)⟩
  obtain ⟨hl, G, F, R, S0, ds, rep, rx, post⟩ := h
  exact ⟨_, pss_d, body cdv A outer s H E G hr _ S0 _ F R H (ent_rel rx) rep _ (run_post rfl rfl rfl post)⟩
theorem OkA.imp {fn' : Fn} (h : OkA P w K mg base k x qual f st dvs ps fn) (hf : ∀ G F R S ds H (Q : VK) (E : XK), Rep ⟨K, P, w⟩ G F R S H → PostF ⟨K, P, w⟩ G F R Q E (fn' ds S) → PostF ⟨K, P, w⟩ G F R Q E (fn ds S)) : OkA P w K mg base k x qual f st dvs ps fn' := by
  obtain ⟨fd, h0, h1⟩ := h
  exact ⟨fd, h0, h1.imp fun vs H Q E ⟨hl, G, F, R, S, ds, rep, rx, post⟩ => ⟨hl, G, F, R, S, ds, rep, rx, hf G F R S ds H Q E rep post⟩⟩
theorem okA_fz {n : Nat} (h : OkA P w K mg base k x qual f st dvs ps (runB n b)) : OkA P w K mg base k x qual f st dvs ps (runZ n b) := h.imp fun G F R S ds H Q E rep post => froz_post rep post
theorem OkA.keep (h : OkA P w K mg base k x qual f st dvs ps fn) : PySem.W.keepIn K (.ref f) = true := let ⟨_, h0, _⟩ := h; h0.kp
/-- called with all its arguments -/
theorem OkA.form (h : OkA P w K mg base k x qual f st [] ps fn) (hb : BindsByN x qual ps st) {n : Nat} (hn : ps.length = n) : Form P w K mg base k f fn n [] := by
  obtain ⟨fd, h0, h1⟩ := h
  subst hn
  exact ⟨fd, ps, [], [], h1, h0.bindsN hb, .nil, fun _ => .nil⟩
/-- called with n arguments; the defaults from the j-th on fill up -/
theorem OkA.formD (h : OkA P w K mg base k x qual f st dvs ps fn) (n j : Nat) {dfl : List Z.P} (hd : dvs ≠ []) (hn : n + (dvs.length - j) = ps.length) (hb : BindsByD x qual ps st n dvs.length j) (hp : ∀ F, RpAll ⟨K, P, w⟩ F (dvs.drop j) dfl) : Form P w K mg base k f fn n dfl := by
  obtain ⟨fd, h0, h1⟩ := h
  obtain ⟨ds, v, bi⟩ := h0.binds1 n j hd hn hb
  have hl : n + dfl.length = ps.length := by rw [← (hp (fun _ => none)).length, List.length_drop]; exact hn
  exact ⟨fd, ps, ds, _, by rw [hl]; exact h1, bi, v, hp⟩
end
/-! ### the law's call -/
section
variable {P : Program} {w : World} {K : PySem.W.Frag} {h : Heap} {a : Addr} {vs : List Value} {ns : List Int}
abbrev scrObj (vs : List Value) : Obj := { cls := .type "list", data := .seq vs.toArray }
theorem scr_heap (KX : K.In h) (ha : h.get? a = some (scrObj vs)) (hi : IntsAre vs ns) (hl : ns.length ≤ sizeLine) :
    ∃ H : Hp, SqL K H a (ns.map V.int) ∧ HOk P w H h ∧ (∀ b o, H b = some o → b = a ∧ K.lookup a = none ∧ o = .frz (scrObj vs) (.lst (ns.map V.int))) := by
  have rv := vals_ints hi
  cases hk : K.lookup a with
  | some o =>
    obtain rfl : o = scrObj vs := by
      have := KX a o hk
      rw [ha] at this
      exact (Option.some.inj this).symm
    refine ⟨fun _ => none, .inr ⟨_, _, _, hk, rfl, rfl, rfl, ?_, ?_⟩, ?_, ?_⟩
    · rw [List.size_toArray, hi.length]; exact hl
    · simpa using rv
    · intro b u z; cases (show (none : Option HO) = some u from z)
    · intro b u z; cases (show (none : Option HO) = some u from z)
  | none =>
    refine ⟨upd (fun _ => none) a (.frz (scrObj vs) (.lst (ns.map V.int))), .inl (.inr ⟨_, upd_same⟩), ?_, ?_⟩
    · intro b u z
      by_cases e : b = a
      · subst e
        rw [upd_same] at z
        cases z
        exact ⟨ha, by rw [List.length_map]; exact hl, vs, _, rv, ha⟩
      · rw [upd_ne e] at z; cases z
    · intro b u z
      by_cases e : b = a
      · subst e
        rw [upd_same] at z
        exact ⟨rfl, rfl, (Option.some.inj z).symm⟩
      · rw [upd_ne e] at z; cases z
end
theorem law_callG {P : Program} {w : World} {K : PySem.W.Frag} {mg mb : Str → Option Value} {CX : CXT} {k : Nat} {fa a : Addr} {fd : FuncData} {x : Str} {sp : Sp} {s : Shared} {vs : List Value} {ns : List Int}
    (KX : K.In s.heap) (gl : s.heap.Ns mainGlobals mg) (bi : s.heap.Ns builtinsNs mb) (bib : ∀ x : Str, x ≠ "__name__" → mb x = bootBuiltins x) (lim : s.heap.NoLimit) (gens : s.gens = #[])
    (ha : s.heap.get? a = some (scrObj vs)) (hi : IntsAre vs ns) (hl : ns.length ≤ sizeLine) (room : Room k callerA) (F : ∀ base : Heap, FnG P w K mg base CX k fa fd [x] sp) (bind : ∀ (s : Shared) (u : Value), BindsTo s fd ⟨[u], []⟩ [(x, u)])
    (want : ∀ H : Hp, SqL K H a (ns.map V.int) → sp [.ref a] H (fun v _ => v = .bl true) fun _ _ _ => False) (hCX : ∀ H e s', CX [] H s (fun _ _ _ => False) e s' → False) :
    codeAny (model P w) callerA (.call (.ref fa) ⟨[.ref a], []⟩) (fun r s' => r = .ok (.ret (.bool true)) ∧ OldK s.heap s'.heap ∧ s'.os = s.os ∧ AllBare s'.gens) s := by
  obtain ⟨H, hS, hok, only⟩ := scr_heap (P := P) (w := w) KX ha hi hl
  have seen : ∀ {b : Addr} {o : Obj}, s.heap.get? b = some o → (b = a → K.lookup a ≠ none) → (hidT s.heap H).get? b = some o := fun {b o} e n => by
    refine hidT_get e ?_
    cases q : H b with
    | none => rfl
    | some u => exact absurd (only b u q).2.1 (n (only b u q).1)
  have seenN : ∀ {b : Addr} {m : Str → Option Value}, s.heap.Ns b m → (hidT s.heap H).Ns b m := by
    rintro b m ⟨o, es, ep, e, d, r⟩
    refine ⟨o, es, ep, seen e ?_, d, r⟩
    rintro rfl
    rw [ha] at e
    cases e
    cases (show Data.seq vs.toArray _ = Data.dict es ep from d)
  have kin : K.In (hidT s.heap H) := fun b o e => seen (KX b o e) (by rintro rfl; rw [e]; exact nofun)
  obtain ⟨mc, l1, l2⟩ := lim
  have env : Env0 P w K mg (hidT s.heap H) callerA [] s H := ⟨rfl, ⟨kin, seenN gl, ⟨mb, seenN bi, bib⟩, ⟨mc, seenN l1, l2⟩⟩, fun b o e => of_hidT e, Nat.le_of_eq (hidT_size _ _), trivial, nofun, hok, .of_eq gens⟩
  refine codeAny_mono ((F (hidT s.heap H)).run callerA [] s H ⟨[.ref a], []⟩ [.ref a] [.ref a] _ _ rfl room env (bind s (.ref a)) (.cons rfl .nil) (want H hS)) ?_
  rintro (er | _ | _ | _ | u) s' q
  · exact (hCX H er s' q).elim
  · exact q.elim
  · exact q.elim
  · exact q.elim
  · obtain ⟨v, H', os, bare, un, hok', r', q⟩ := q
    cases (show v = .bl true from q)
    cases (show u = Value.bool true from r')
    refine ⟨rfl, OldK.of_keep fun b o e => ?_, os, bare⟩
    cases z : H b with
    | none => exact un.keep b o e z nofun (by simp)
    | some ho =>
      obtain ⟨rfl, _, rfl⟩ := only b ho z
      have e1 := (hok b _ z).1
      rw [e] at e1
      cases e1
      exact (hok' b _ (un.frzs b _ _ z)).1
theorem rep0 {K : Fr} {H : Hp} : Rep K (fun _ => none) H [] [] H :=
  ⟨fun _ => nil, Same.refl _, rfl, fun n c e => by simp at e, fun n a o e => by simp [nil] at e, fun n m a e => absurd rfl e, fun _ _ => rfl, fun a o e => by simp at e⟩
theorem walk_ofG {l : PySem.W.OpenLaw} {n k : Nat} {q : Program} {loose : List Str} {XP : (Str → Option Value) → Heap → Prop} {YP : World → Heap → Prop} {d : DefRec} {x : Str} {f : Fn}
    (hn : l.most = some n) (hn2 : n ≤ sizeLine) (hdf : d.params.defaults = []) (room : Room k callerA)
    (F : ∀ (w : World) (mg : Str → Option Value) (fa : Addr) (h : Heap), YP w h → h.Ns mainGlobals mg → mg d.name = some (.ref fa) →
      ∃ (K : PySem.W.Frag) (fd : FuncData), K.In h ∧ (∀ (s : Shared) (u : Value), BindsTo s fd ⟨[u], []⟩ [(x, u)]) ∧ (∀ base : Heap, FnG l.prog w K mg base (L2.CX l.prog w) k fa fd [x] (spF ⟨K, l.prog, w⟩ 1 f)))
    (law : ∀ ns : List Int, ns.length ≤ n → ∃ S, f [.p (.scr ns)] [] = .ok (.p (.bl true)) S) :
    PySem.W.WalkO q loose XP YP l.row.toRowW d [] (fun f vs => PySem.call f vs) := by
  refine Att.attach_call hn hdf ?_
  intro w s₀ s₁ mg mb fa o pm cd doc a vs ns G Y ho hd hcd hmg hobj hints hlen hg
  obtain ⟨K, fd, KX, b, f⟩ := F w mg fa _ Y G.T.g hmg
  obtain ⟨S, e⟩ := law ns hlen
  refine law_callG KX G.T.g G.T.b G.T.builtins G.T.nolimit hg hobj hints (Nat.le_trans hlen hn2) room f b (fun H hS => ⟨rfl, _, H, [], [], [.p (.scr ns)], rep0, .cons (show Rp _ H (.ref a) (.scr ns) from .scr hS) .nil, ?_⟩) fun H e s' => ?_
  · rw [e]
    intro v F' R' H' h1 _ _ _
    cases (show Rp _ F' v (.bl true) from h1)
    rfl
  · rintro ⟨a, B, H', cls, d, _, _, _, _, _, _, _, z⟩
    exact z
end Z

namespace Z
open PySem PySem.Spec PyProof.Rows L2
/-! ### methods of texts -/
def eSm (f : Str → List P → Option P) (mo : M) (ma : MA) : M := fun sl S => (mo sl S).bind fun d S1 => match d with
  | .p (.str z) => (ma sl S1).bind fun ds S2 => match views S2 ds with
    | some ps => match f z ps with
      | some q => .ok (.p q) S2
      | none => .no
    | none => .no
  | _ => .no
def SmV (K : Fr) (r : V → List V → Hp → VK → Prop) (f : Str → List P → Option P) : Prop := ∀ z ps q vs F H (Q : VK), f z ps = some q → VwAll K F H vs ps → Same F H → (∀ v F' H', Rp K F' v q → Grow F H F' H' → Q v H') → r (.str z) vs H Q
section
variable {C : Kx} {a b c e o : Expr} {es rest : List Expr} {pos p apos cpos : Pos} {x m : Str} {ma : MA} {mo me : M} {f : Str → List P → Option P} {r : V → List V → Hp → VK → Prop} {K : Fr}
theorem ej_sm (hp : PE C.X c (tBM C.X.K "str" r (ED C.X o) (AD C.X es))) (hf : SmV C.K r f) (h1 : Ej C mo o) (h2 : Aj C ma es) : Ej C (eSm f mo ma) c := .mk fun sl S σ F R H hs hr Q post =>
  ED.of hp (h1 sl S σ F R H hs hr _ (Post.bind post fun d S1 v F1 R1 H1 _ rv rep1 s1 r1 post1 => by
    cases d with
    | ref n => exact post1.elim
    | p q =>
      cases q with
      | str z =>
        cases (show Rp C.K F1 v (.str z) from rv)
        refine ⟨rfl, h2 sl S1 σ F1 R1 H1 (hs.mono s1 r1) rep1 _ (Post.bind post1 fun ds S2 vs F2 R2 H2 _ rd rep2 s2 r2 post2 => ?_)⟩
        cases hv : views S2 ds with
        | none => simp only [hv] at post2; exact post2.elim
        | some ps =>
          simp only [hv] at post2
          cases hff : f z ps with
          | none => simp only [hff] at post2; exact post2.elim
          | some q =>
            simp only [hff] at post2
            exact hf z ps q vs F2 H2 Q hff (views_vw rd rep2 hv) rep2.sub fun v F' H' rv g => post2 v F' R2 H' rv (rep2.grow g) g.sF pre_refl
      | _ => exact post1.elim))
theorem rp_strs {F : Hp} : ∀ ys : List Str, RpAll K F (ys.map V.str) (ys.map P.str)
  | [] => .nil
  | y :: ys => .cons (.str y) (rp_strs ys)
def splitP (z : Str) : List P → Option P
  | [.str y] => if (y.length == 0) = false ∧ z.length + 2 ≤ sizeLine then some (.lst ((PySem.Txt.split z y).map .str)) else none
  | _ => none
theorem sv_split : SmV K (fun x xs H Q => ∃ a b, x = .str a ∧ xs = [.str b] ∧ (b.length == 0) = false ∧ a.length + 2 ≤ sizeLine ∧ rNewStrs (PySem.Txt.split a b) H Q) splitP := fun z ps q vs F H Q e hx s k => by
  unfold splitP at e
  split at e
  · obtain ⟨v, rfl, h⟩ := vw1 hx
    obtain ⟨hc, rfl⟩ := if_some e
    cases h.str
    exact ⟨z, _, rfl, rfl, hc.1, hc.2, fun p hp => k (.ref p) _ _ (.lst upd_same (rp_strs _)) (Grow.new s hp)⟩
  · cases e
theorem ej_split (h1 : Ej C mo o) (h2 : Ej C me e) (hbase : Bs C o "split" := by rfl) (hfew : Few C [e] cpos := by rfl) (hline : (apos.endLine == cpos.line) = true := by rfl) (hs : starEach [e] C.X.env = (false, eval e C.X.env) :: starEach [] C.X.env := by exact se_of rfl) :
    Ej C (eSm splitP mo (aC me aN)) (.Call (.Attribute o "split" apos) [e] [] cpos) :=
  ej_sm (pe_bm PySem.F.plainAttrs_str PySem.F.slot_str_split PySem.F.type_str_split mt_split pe_d pa_d hbase hfew hline hs) sv_split h1 (aj_cons h2 aj_nil hs)
def partitionP (z : Str) : List P → Option P
  | [.str y] => if (y.length == 0) = false ∧ z.length ≤ sizeLine then some (.tup [.str (PySem.Txt.partition z y).1, .str (PySem.Txt.partition z y).2.1, .str (PySem.Txt.partition z y).2.2]) else none
  | _ => none
theorem sv_partition : SmV K (fun x xs H Q => ∃ a b, x = .str a ∧ xs = [.str b] ∧ (b.length == 0) = false ∧ a.length ≤ sizeLine ∧ ∀ p, H p = none → Q (.ref p) (upd H p (.tup [.str (PySem.Txt.partition a b).1, .str (PySem.Txt.partition a b).2.1, .str (PySem.Txt.partition a b).2.2]))) partitionP := fun z ps q vs F H Q e hx s k => by
  unfold partitionP at e
  split at e
  · obtain ⟨v, rfl, h⟩ := vw1 hx
    obtain ⟨hc, rfl⟩ := if_some e
    cases h.str
    exact ⟨z, _, rfl, rfl, hc.1, hc.2, fun p hp => k (.ref p) _ _ (.tup upd_same (.cons (.str _) (.cons (.str _) (.cons (.str _) .nil)))) (Grow.new s hp)⟩
  · cases e
theorem ej_partition (h1 : Ej C mo o) (h2 : Ej C me e) (hbase : Bs C o "partition" := by rfl) (hfew : Few C [e] cpos := by rfl) (hline : (apos.endLine == cpos.line) = true := by rfl) (hs : starEach [e] C.X.env = (false, eval e C.X.env) :: starEach [] C.X.env := by exact se_of rfl) :
    Ej C (eSm partitionP mo (aC me aN)) (.Call (.Attribute o "partition" apos) [e] [] cpos) :=
  ej_sm (pe_bm PySem.F.plainAttrs_str PySem.F.slot_str_partition PySem.F.type_str_partition mt_partition pe_d pa_d hbase hfew hline hs) sv_partition h1 (aj_cons h2 aj_nil hs)
def startsP (z : Str) : List P → Option P
  | [.str y] => some (.bl (PySem.Txt.startswith z y))
  | _ => none
theorem sv_starts : SmV K (fun x xs H Q => ∃ a b, x = .str a ∧ xs = [.str b] ∧ Q (.bl (PySem.Txt.startswith a b)) H) startsP := fun z ps q vs F H Q e hx s k => by
  unfold startsP at e
  split at e
  · obtain ⟨v, rfl, h⟩ := vw1 hx
    cases e
    cases h.str
    exact ⟨z, _, rfl, rfl, k _ F H (.bl _) (Grow.refl s)⟩
  · cases e
theorem ej_starts (h1 : Ej C mo o) (h2 : Ej C me e) (hbase : Bs C o "startswith" := by rfl) (hfew : Few C [e] cpos := by rfl) (hline : (apos.endLine == cpos.line) = true := by rfl) (hs : starEach [e] C.X.env = (false, eval e C.X.env) :: starEach [] C.X.env := by exact se_of rfl) :
    Ej C (eSm startsP mo (aC me aN)) (.Call (.Attribute o "startswith" apos) [e] [] cpos) :=
  ej_sm (pe_bm PySem.F.plainAttrs_str PySem.F.slot_str_startswith PySem.F.type_str_startswith mt_startswith pe_d pa_d hbase hfew hline hs) sv_starts h1 (aj_cons h2 aj_nil hs)
def strsOf : List P → Option (List Str)
  | [] => some []
  | .str y :: ps => (strsOf ps).map (y :: ·)
  | _ => none
theorem strsOf_rp {F : Hp} : ∀ {ps : List P} {ys : List Str} {vs : List V}, strsOf ps = some ys → RpAll K F vs ps → vs = ys.map V.str
  | [], ys, vs, e, h => by cases e; cases h; rfl
  | p :: ps, ys, vs, e, h => by
    cases h with
    | @cons v vs' d ds h1 h2 =>
      cases p with
      | str y =>
        simp only [strsOf] at e
        cases hp : strsOf ps with
        | none => rw [hp] at e; cases e
        | some zs =>
          rw [hp] at e
          cases e
          cases h1
          rw [strsOf_rp hp h2]
          rfl
      | _ => cases e
def joinP (z : Str) : List P → Option P
  | [.lst ps] => match strsOf ps with
    | some ys => if (ys.map (·.length)).sum + ys.length * z.length ≤ 16777216 then some (.str (PySem.Txt.join z ys)) else none
    | none => none
  | [.tup ps] => match strsOf ps with
    | some ys => if (ys.map (·.length)).sum + ys.length * z.length ≤ 16777216 then some (.str (PySem.Txt.join z ys)) else none
    | none => none
  | _ => none
theorem sv_join : SmV K (fun x xs H Q => ∃ a p, ∃ ys : List Str, x = .str a ∧ xs = [.ref p] ∧ (SqL K.K H p (ys.map V.str) ∨ SqT K.K H p (ys.map V.str)) ∧ (ys.map (·.length)).sum + ys.length * a.length ≤ 16777216 ∧ Q (.str (PySem.Txt.join a ys)) H) joinP := fun z ps q vs F H Q e hx s k => by
  unfold joinP at e
  split at e
  · obtain ⟨v, rfl, h⟩ := vw1 hx
    split at e
    · rename_i ys hys
      obtain ⟨hc, rfl⟩ := if_some e
      obtain ⟨a, vs, rfl, h1, h2⟩ := h.lstE s
      rw [strsOf_rp hys h2] at h1
      exact ⟨z, a, ys, rfl, rfl, .inl (.inl (.inl h1)), hc, k _ F H (.str _) (Grow.refl s)⟩
    · cases e
  · obtain ⟨v, rfl, h⟩ := vw1 hx
    split at e
    · rename_i ys hys
      obtain ⟨hc, rfl⟩ := if_some e
      obtain ⟨a, vs, rfl, h1, h2⟩ := h.tupE
      rw [strsOf_rp hys h2] at h1
      exact ⟨z, a, ys, rfl, rfl, .inr (same_sqT s h1), hc, k _ F H (.str _) (Grow.refl s)⟩
    · cases e
  · cases e
theorem ej_join (h1 : Ej C mo o) (h2 : Ej C me e) (hbase : Bs C o "join" := by rfl) (hfew : Few C [e] cpos := by rfl) (hline : (apos.endLine == cpos.line) = true := by rfl) (hs : starEach [e] C.X.env = (false, eval e C.X.env) :: starEach [] C.X.env := by exact se_of rfl) :
    Ej C (eSm joinP mo (aC me aN)) (.Call (.Attribute o "join" apos) [e] [] cpos) :=
  ej_sm (pe_bm PySem.F.plainAttrs_str PySem.F.slot_str_join PySem.F.type_str_join mt_join pe_d pa_d hbase hfew hline hs) sv_join h1 (aj_cons h2 aj_nil hs)
/-! ### texts with holes -/
def fmtP : P → Option P
  | .str y => if y.length ≤ sizeLine then some (.str y) else none
  | .int i => if i.natAbs.log2 < 1920 then some (.str (toString i)) else none
  | .non => some (.str "None")
  | .bl b => some (.str (if b then "True" else "False" : String))
  | _ => none
def tFmtZ (te : TE) : TE := fun σ H Q => te σ H fun x H1 => (∃ y : Str, x = .str y ∧ y.length ≤ sizeLine ∧ Q (.str y) H1) ∨ (∃ i : Int, x = .int i ∧ i.natAbs.log2 < 1920 ∧ Q (.str (toString i)) H1) ∨ (x = .non ∧ Q (.str "None") H1) ∨ ∃ b : Bool, x = .bl b ∧ Q (.str (if b then "True" else "False" : String)) H1
theorem pe_fmtZ {X : Cx} {e : Expr} {te : TE} {pos : Pos} (he : PE X e te) : PE X (.FormattedValue e (-1) none pos) (tFmtZ te) := by
  refine ⟨fun pins s σ H Q I h => ?_⟩
  refine wpAny_FormattedValue_plain (thn (he.run pins s σ H _ I h) fun v s1 hv => ?_)
  obtain ⟨x, H1, I1, r1, q⟩ := hv
  rcases q with ⟨y, rfl, hz, q⟩ | ⟨i, rfl, hz, q⟩ | ⟨rfl, q⟩ | ⟨b, rfl, q⟩
  · obtain ⟨t, rfl⟩ := r1
    exact wpAny_formatField_str ⟨.str y, H1, I1, ⟨t, rfl⟩, q⟩ ⟨.str y, H1, I1.tok _, ⟨_, rfl⟩, q⟩ hz
  · obtain ⟨t, rfl⟩ := r1
    exact wpAny_formatField_int hz ⟨.str (toString i), H1, I1.tok _, ⟨_, rfl⟩, q⟩
  · cases r1
    exact wpAny_formatField_none ⟨.str "None", H1, I1.tok _, ⟨_, rfl⟩, q⟩
  · cases r1
    exact wpAny_formatField_bool ⟨.str (if b then "True" else "False" : String), H1, I1.tok _, ⟨_, by cases b <;> rfl⟩, q⟩
theorem ej_fmt (h : Ej C me e) : Ej C (eU fmtP me) (.FormattedValue e (-1) none pos) := .mk fun sl S σ F R H hs hr Q post =>
  ED.of (pe_fmtZ pe_d) (h sl S σ F R H hs hr _ (Post.bind post fun d S1 v F1 R1 H1 _ rv rep1 s1 r1 post1 => by
    unfold lift1 at post1
    cases hv : view S1 d with
    | none => rw [hv] at post1; exact post1.elim
    | some q =>
      rw [hv] at post1
      have vw := view_vw rv rep1 hv
      cases q with
      | str y =>
        cases vw.str
        simp only [fmtP] at post1
        by_cases hc : y.length ≤ sizeLine
        · rw [if_pos hc] at post1
          exact .inl ⟨y, rfl, hc, post1.okv (show RelD C.K F1 R1 (.str y) (.p (.str y)) from .str y) rep1⟩
        · rw [if_neg hc] at post1; exact post1.elim
      | int i =>
        cases vw.int
        simp only [fmtP] at post1
        by_cases hc : i.natAbs.log2 < 1920
        · rw [if_pos hc] at post1
          exact .inr (.inl ⟨i, rfl, hc, post1.okv (show RelD C.K F1 R1 (.str (toString i)) (.p (.str (toString i))) from .str _) rep1⟩)
        · rw [if_neg hc] at post1; exact post1.elim
      | non =>
        cases vw.non
        exact .inr (.inr (.inl ⟨rfl, post1.okv (show RelD C.K F1 R1 (.str "None") (.p (.str "None")) from .str _) rep1⟩))
      | bl b =>
        cases vw.bl
        exact .inr (.inr (.inr ⟨b, rfl, post1.okv (show RelD C.K F1 R1 (.str (if b then "True" else "False" : String)) (.p (.str (if b then "True" else "False" : String))) from .str _) rep1⟩))
      | _ => exact post1.elim))
def jsL : List M → Str → Slots → Store → Rs Str
  | [], acc, _, S => .ok acc S
  | m :: ms, acc, sl, S => (m sl S).bind fun d S1 => match d with
    | .p (.str y) => if (acc ++ y).length ≤ sizeLine then jsL ms (acc ++ y) sl S1 else .no
    | _ => .no
def eJs (ms : List M) : M := fun sl S => (jsL ms Str.empty sl S).bind fun z S1 => .ok (.p (.str z)) S1
inductive Jj (C : Kx) : List M → List Expr → Prop
  | nil : Jj C [] []
  | cons {m : M} {e : Expr} {ms : List M} {es : List Expr} (h : Ej C m e) (t : Jj C ms es) : Jj C (m :: ms) (e :: es)
theorem Jj.pj {ms : List M} {es : List Expr} (h : Jj C ms es) : PJ C.X es (es.map (ED C.X)) := by
  induction h with
  | nil => exact .nil
  | cons h t ih => exact .cons pe_d ih
theorem Jj.run {ms : List M} {es : List Expr} (h : Jj C ms es) : ∀ (acc : Str) (sl : Slots) (S : Store) (σ : L2.St) (F : Hp) (R : List Addr) (H : Hp), SlR C.K F R σ sl → Rep C.K C.G F R S H → ∀ Q : Str → Hp → Prop, Post C σ F R (fun _ _ b a => b = a) Q (jsL ms acc sl S) → tJs (es.map (ED C.X)) acc σ H Q := by
  induction h with
  | nil => exact fun acc sl S σ F R H hs hr Q post => post.okv rfl hr
  | @cons m e ms es h t ih =>
    intro acc sl S σ F R H hs hr Q post
    simp only [List.map_cons, tJs]
    refine h sl S σ F R H hs hr _ (Post.bind post fun d S1 v F1 R1 H1 _ rv rep1 s1 r1 post1 => ?_)
    cases d with
    | ref n => exact post1.elim
    | p q =>
      cases q with
      | str y =>
        cases (show Rp C.K F1 v (.str y) from rv)
        simp only [] at post1
        by_cases hc : (acc ++ y).length ≤ sizeLine
        · rw [if_pos hc] at post1
          exact ⟨y, rfl, hc, ih (acc ++ y) sl S1 σ F1 R1 H1 (hs.mono s1 r1) rep1 Q post1⟩
        · rw [if_neg hc] at post1; exact post1.elim
      | _ => exact post1.elim
theorem ej_js {m1 m2 : M} {ms : List M} {e1 e2 : Expr} {es : List Expr} (h : Jj C (m1 :: m2 :: ms) (e1 :: e2 :: es)) : Ej C (eJs (m1 :: m2 :: ms)) (.JoinedStr (e1 :: e2 :: es) pos) := .mk fun sl S σ F R H hs hr Q post =>
  ED.of (pe_joined h.pj) (h.run Str.empty sl S σ F R H hs hr _ (by
    unfold eJs at post
    exact Post.bind post fun z S1 b F1 R1 H1 _ rb rep1 s1 r1 post1 => by
      subst rb
      exact post1.okv (show RelD C.K F1 R1 (.str b) (.p (.str b)) from .str b) rep1))
end
end Z

namespace Z
open PySem PySem.Spec PyProof.Rows L2
/-! ### what cannot be reached -/
def sNo : MS := fun _ _ => .no
theorem sj_no {C : Kx} {st : Stmt} : Sj1 C sNo st := .mk fun _ _ _ _ _ _ _ _ _ post => post.elim
def eNo : M := fun _ _ => .no
theorem ej_no {C : Kx} {e : Expr} : Ej C eNo e := .mk fun _ _ _ _ _ _ _ _ _ post => post.elim
/-! ### match over a list of texts -/
inductive PatE where
  | lit (z : Str)
  | cap (j : Nat)
inductive PatJ (X : Cx) : Pattern → PatE → Prop
  | lit {z : Str} {k p1 p2} : PatJ X (.MatchValue (.Constant (.str z) k p1) p2) (.lit z)
  | cap {x : Str} {j : Nat} {p} : X.N[j]? = some x → Loc X.env.scope x → (X.fn x = true ∨ X.env.scope.names.lookup x = some .local) → PatJ X (.MatchAs none (some x) p) (.cap j)
inductive PatsJ (X : Cx) : List Pattern → List PatE → Prop
  | nil : PatsJ X [] []
  | cons {p : Pattern} {q : PatE} {ps : List Pattern} {qs : List PatE} : PatJ X p q → PatsJ X ps qs → PatsJ X (p :: ps) (q :: qs)
def matchE : List PatE → List P → Option (Option (List (Nat × P)))
  | [], [] => some (some [])
  | .lit z :: qs, .str y :: ps => if y = z then matchE qs ps else some none
  | .cap j :: qs, p :: ps => match matchE qs ps with
    | some (some bs) => some (some ((j, p) :: bs))
    | r => r
  | _, _ => none
inductive BdR (X : Cx) (K : Fr) (F : Hp) : List (Str × Value) → List (Nat × P) → Prop
  | nil : BdR X K F [] []
  | cons {x : Str} {u : Value} {j : Nat} {p : P} {v : V} {bs : List (Str × Value)} {ds : List (Nat × P)} : X.N[j]? = some x → Loc X.env.scope x → (X.fn x = true ∨ X.env.scope.names.lookup x = some .local) → RelV v u → Rp K F v p → BdR X K F bs ds → BdR X K F ((x, u) :: bs) ((j, p) :: ds)
def setB (sl : Slots) : List (Nat × P) → Slots
  | [] => sl
  | (j, p) :: bs => setB (sl.set j (some (.p p))) bs
section
variable {C : Kx} {pins : List (Addr × Obj)} {σ : L2.St} {H F : Hp} {s : Shared} {R : List Addr}
theorem pat_lit {z y : Str} {k p1 p2} {t : Tok} {Q : Option (List (Str × Value)) → Shared → Prop} (I : Inv C.X pins σ H s) (h : ∀ s', Inv C.X pins σ H s' → if y = z then Q (some []) s' else Q none s') : wpAny (model C.X.prog C.X.w) C.X.A (matchPattern (.MatchValue (.Constant (.str z) k p1) p2) C.X.env (.str y t)) Q C.X.xe s := by
  refine wpAny_matchPattern_Value (thn (pe_str.run pins s σ H (fun v H' => v = .str z ∧ H = H') I ⟨rfl, rfl⟩) fun u s1 ⟨v, H1, I1, r1, e1, e2⟩ => ?_)
  subst e1 e2
  refine thn (op_eq pins s1 σ H (.str y) (.str z) (.str y t) u (fun v H' => v = .bl (decide (y = z)) ∧ H = H') I1 ⟨_, rfl⟩ r1 ⟨rfl, by simp, rfl⟩) fun w s2 ⟨v, H2, I2, r2, e1, e2⟩ => ?_
  subst e1 e2
  cases r2
  refine wpAny_truthy_bool ?_
  have := h s2 I2
  by_cases hc : y = z
  · rw [if_pos hc] at this; simp [hc]; exact this
  · rw [if_neg hc] at this; simp [hc]; exact this
theorem each_ok : ∀ {pats : List Pattern} {qs : List PatE} {ps : List P} {vs : List V} {us : List Value} {r : Option (List (Nat × P))} {s : Shared} {Q : Option (List (Str × Value)) → Shared → Prop}, PatsJ C.X pats qs → matchE qs ps = some r → RpAll C.K F vs ps → Vals vs us → Inv C.X pins σ H s →
    (match r with
      | none => ∀ s', Inv C.X pins σ H s' → Q none s'
      | some ds => ∀ s' bs, Inv C.X pins σ H s' → BdR C.X C.K F bs ds → Q (some bs) s') → wpAny (model C.X.prog C.X.w) C.X.A (matchEach pats C.X.env us) Q C.X.xe s
  | [], _, ps, vs, us, r, s, Q, hp, e, hv, hu, I, h => by
    cases hp
    cases ps with
    | cons p ps => cases e
    | nil =>
      cases e
      cases hv
      cases hu
      exact wpAny_matchEach_nil (h s [] I .nil)
  | pat :: pats, _, ps, vs, us, r, s, Q, hp, e, hv, hu, I, h => by
    cases hp with
    | @cons _ q _ qs hq hqs =>
      cases ps with
      | nil => cases q <;> cases e
      | cons p ps =>
        cases hv with
        | @cons v vs _ _ hv1 hv2 =>
          cases hu with
          | @cons _ u _ us hu1 hu2 =>
            cases hq with
            | @lit z k p1 p2 =>
              cases p with
              | str y =>
                cases hv1
                obtain ⟨t, rfl⟩ := hu1
                refine wpAny_matchEach_cons (pat_lit I fun s' I' => ?_) rfl
                by_cases hc : y = z
                · rw [if_pos hc]
                  simp only [matchE, if_pos hc] at e
                  refine each_ok hqs e hv2 hu2 I' ?_
                  cases r with
                  | none => exact h
                  | some ds => exact fun s'' bs I'' hb => h s'' bs I'' hb
                · rw [if_neg hc]
                  simp only [matchE, if_neg hc] at e
                  cases e
                  exact h s' I'
              | _ => cases e
            | @cap x j p' h1 h2 h3 =>
              refine wpAny_matchEach_cons (wpAny_matchPattern_Capture ?_) rfl
              simp only [matchE] at e
              cases hm : matchE qs ps with
              | none => rw [hm] at e; cases e
              | some r' =>
                rw [hm] at e
                cases r' with
                | none =>
                  cases e
                  exact each_ok hqs hm hv2 hu2 I fun s' I' => h s' I'
                | some ds =>
                  cases e
                  exact each_ok hqs hm hv2 hu2 I fun s' bs I' hb => h s' _ I' (.cons h1 h2 h3 hu1 hv1 hb)
theorem binds_ok (hN : C.X.N.Nodup) : ∀ {bs : List (Str × Value)} {ds : List (Nat × P)} {σ : L2.St} {s : Shared} {sl : Slots} {Q : Unit → Shared → Prop}, BdR C.X C.K F bs ds → Inv C.X pins σ H s → SlR C.K F R σ sl → (∀ σ' s', Inv C.X pins σ' H s' → SlR C.K F R σ' (setB sl ds) → Q () s') → wpAny (model C.X.prog C.X.w) C.X.A (assignInOrder (bs.map fun (n, _) => bindName C.X.env n) (bs.map (·.2))) Q C.X.xe s
  | _, _, σ, s, sl, Q, .nil, I, hs, h => wpAny_assignInOrder_none (h σ s I hs)
  | _, _, σ, s, sl, Q, .cons (v := v) (p := p) h1 h2 h3 h4 h5 h6, I, hs, h => by
    refine wpAny_assignInOrder_more (wpAny_bindName (store_ok I hN h1 h2 h4 (fun s' I' => ?_) h3))
    exact binds_ok hN h6 I' (hs.set (show RelD C.K F R v (.p p) from h5)) h
def matchL : List (List PatE × MS) → List P → Slots → Store → Fl
  | [], _, sl, S => .nx sl S
  | (qs, b) :: cs, ps, sl, S => if ps.length = qs.length then match matchE qs ps with
      | some (some ds) => b (setB sl ds) S
      | some none => matchL cs ps sl S
      | none => .no
    else matchL cs ps sl S
inductive CasesJ (C : Kx) : List (List PatE × MS) → List MatchCase → Prop
  | nil : CasesJ C [] []
  | cons {pats : List Pattern} {qs : List PatE} {b : MS} {body : List Stmt} {cs : List (List PatE × MS)} {ms : List MatchCase} {p : Pos} : PatsJ C.X pats qs → pats.findIdx? (·.isStar) = none → (pats.all fun p => p.isWildcard || (p.isStar && p.names.isEmpty)) = false → Sj C b body → CasesJ C cs ms → CasesJ C ((qs, b) :: cs) (⟨.MatchSequence pats p, none, body⟩ :: ms)
theorem PatsJ.len {X : Cx} {pats : List Pattern} {qs : List PatE} (h : PatsJ X pats qs) : pats.length = qs.length := by
  induction h with
  | nil => rfl
  | cons _ _ ih => simp [ih]
theorem cases_ok {S : Store} {sl : Slots} {a : Addr} {vs : List V} {ps : List P} {D : Ends} (hc : C.X.calm = true) (hN : C.X.N.Nodup) {cs : List (List PatE × MS)} {ms : List MatchCase} (h : CasesJ C cs ms) : ∀ {first : Bool} {s : Shared} {H F : Hp} {R : List Addr}, Inv C.X pins σ H s → SlR C.K F R σ sl → Rep C.K C.G F R S H → H a = some (.lst vs) → RpAll C.K F vs ps → PostS C F R D (matchL cs ps sl S) → wpAny (model C.X.prog C.X.w) C.X.A (matchCases ms C.X.env (.ref a) first) (SP C.X pins D) C.X.xe s := by
  induction h with
  | nil =>
    intro first s H F R I hs rep ha hv post
    exact wpAny_matchCases_nil ⟨σ, H, I, post σ F R H hs rep (Same.refl _) pre_refl⟩
  | @cons pats qs b body cs ms p hp hst hwd hb hcs ih =>
    intro first s H F R I hs rep ha hv post
    obtain ⟨its, rv, ⟨o, n, ho, hcl, hd, hdt⟩, hz⟩ := I.list (.inl (.inl ha))
    have hl : s.heap.IsList a its.toArray := ⟨o, ho, hcl, n, hdt⟩
    have hsz : its.toArray.size = ps.length := by simp [← rv.length, hv.length]
    refine wpAny_matchCases_cons (wpAny_matchPattern_Sequence (wpAny_collectionFlag hl.typeIs flag_seq_list ?_) hst hwd)
    simp only [if_true]
    have hlen : ps.length < 2 ^ 62 := by have := hv.length; rw [sizeLine_eq] at hz; omega
    refine pyLen_list hl (by rw [hsz]; omega) ?_
    rw [hsz]
    have hpl := hp.len
    simp only [matchL] at post
    by_cases hc1 : ps.length = qs.length
    · rw [if_pos hc1] at post
      have e1 : ((ps.length : Int) != (pats.length : Int)) = false := by simp; omega
      rw [e1]
      simp only [Bool.false_eq_true, if_false]
      have hl2 : (⟨s.heap, s.gens, s.drawn, s.toks + 1 + 1, s.os⟩ : Shared).heap.IsList a its.toArray := hl
      have hun := fun Q hQ => PySem.W.kun_itemsOf (prog := C.X.prog) (w := C.X.w) (A := C.X.A) (E := C.X.xe) (s := { s with toks := s.toks + 1 + 1 }) (Q := Q) (I.ok.hd hc) hl hQ
      rw [show pats.length = its.toArray.size by omega]
      refine hun _ fun h' he => ?_
      have I1 : Inv C.X pins σ H { s with heap := h', toks := s.toks + 1 + 1 } := (I.tok (s.toks + 1 + 1)).kept (t' := s.toks + 1 + 1) fun b o e => he b o (Nat.ne_of_lt (Heap.lt_size e)) e
      cases hm : matchE qs ps with
      | none => rw [hm] at post; exact post.elim
      | some r =>
        rw [hm] at post
        refine each_ok (vs := vs) hp hm hv (by simpa using rv) I1 ?_
        cases r with
        | none => exact fun s' I' => ih I' hs rep ha hv post
        | some ds =>
          intro s' bs I' hbd
          refine binds_ok hN hbd I' hs fun σ' s2 I2 hs2 => ?_
          exact (hb (setB sl ds) S σ' F R H hs2 rep D post) pins s2 I2
    · rw [if_neg hc1] at post
      have e1 : ((ps.length : Int) != (pats.length : Int)) = true := by simp; omega
      rw [e1]
      simp only [if_true]
      exact ih (I.tok _) hs rep ha hv post
def sMatch (m : M) (cs : List (List PatE × MS)) : MS := fun sl S => (m sl S).st sl fun d S1 => match view S1 d with
  | some (.lst ps) => matchL cs ps sl S1
  | _ => .no
theorem sj_match {m : M} {e : Expr} {cs : List (List PatE × MS)} {ms : List MatchCase} {pos : Pos} (hc : C.X.calm = true) (hN : C.X.N.Nodup) (h0 : Ej C m e) (h : CasesJ C cs ms) : Sj1 C (sMatch m cs) (.Match e ms pos) := .mk fun sl S σ F R H hs hr D post => by
  intro pins s I
  refine wpAny_Match (thn ((h0 sl S σ F R H hs hr (fun x H1 => ∃ a S1 F1 R1 vs ps, x = .ref a ∧ H1 a = some (.lst vs) ∧ RpAll C.K F1 vs ps ∧ SlR C.K F1 R1 σ sl ∧ Rep C.K C.G F1 R1 S1 H1 ∧ PostS C F1 R1 D (matchL cs ps sl S1)) (PostS.bind post hs fun d S1 x F1 R1 H1 _ rx rep1 s1 r1 hs1 post1 => by
    cases hv : view S1 d with
    | none => simp only [hv] at post1; exact post1.elim
    | some q =>
      cases q with
      | lst ps =>
        simp only [hv] at post1
        obtain ⟨a, vs, rfl, h1, h2⟩ := (view_vw rx rep1 hv).lstE rep1.sub
        exact ⟨a, S1, F1, R1, vs, ps, rfl, h1, h2, hs1, rep1, post1⟩
      | _ => simp only [hv] at post1; exact post1.elim)) pins s I) fun u s1 hu => ?_)
  obtain ⟨x, H1, I1, r1, a, S1, F1, R1, vs, ps, rfl, h1, h2, h3, h4, h5⟩ := hu
  cases r1
  exact cases_ok hc hN h I1 h3 h4 h1 h2 h5
end
end Z

namespace Z
open PySem PySem.Spec PyProof.Rows L2
/-! ### == and != by an own __eq__ -/
section
variable {prog : Program} {w : World} {A : Around} {E : Value → Shared → Prop} {s : Shared} {K : PySem.W.Frag} {x C L f : Addr} {h₀ : Heap} {m : Str → Option Value} {ox : Obj} {od : Option Obj} {name : Str} {b tb : Value}
theorem ifBoundB {M : Model} {B id : String} {args : List Value} {Q : Option Value → Shared → Prop} (X : K.In s.heap) (I : PySem.W.InstAt s.heap x ox C od) (Sl : Slot B name id) (hs : PySem.W.findIn K (.ref C) name = some (some (.builtin id)))
    (h : wpAny M A (call (.builtin id) (.ref x :: args)) (fun v => Q (some v)) E s) : wpAny M A (callSpecialIfBound? (.ref x) name args) Q E s := by
  simp only [callSpecialIfBound?, bindSpecialIfBound?]
  refine wpAny_holding (wpAny_bind (wpAny_bind (wpAny_bind (I.type.here ((PySem.W.looks_findIn X hs).here ?_)))))
  simp only [Sl.bind]
  refine wpAny_bind (wpAny_askSetting (wpAny_ite ?_))
  have fin : wpAny M A (call (.builtin id) ([.ref x] ++ args) >>= fun v => pure (some v)) Q E s := wpAny_bind (wpAny_mono h (fun v s' h' => wpAny_pure h') fun _ _ h' => h')
  split
  · exact wpAny_bind (wpAny_pure (wpAny_pure fin))
  · exact wpAny_tryCatch (wpAny_bind (wpAny_pure (wpAny_pure fin)))
theorem ne_entry {Q : Fin → Shared → Prop} (hu : A.units < cLine) (X : K.In s.heap) (I : PySem.W.InstAt s.heap x ox C od) (he : PySem.W.findIn K (.ref C) "__eq__" = some (some (.ref f))) (hf : PySem.W.isFn K (.ref f) = true)
    (h : wpAny (model prog w) A (call (.ref f) [.ref x, b]) (fun v s' => ∃ k, v = .bool k ∧ Q (.done (.ret (.bool (!k)))) s') E s) : wpAny (model prog w) A (Builtin.«object.__ne__» ⟨[.ref x, b], []⟩) Q E s := by
  unfold Builtin.«object.__ne__»
  repeat (first
    | with_reducible refine wpAny_cRoomFor hu ?_
    | (refine wpAny_bind (m := callSpecialIfBound? (.ref x) (Str.ofString "__eq__") [b])
        (PySem.W.ifBound_K X I he hf (wpAny_mono h (fun r s' hr => by
          obtain ⟨k, rfl, hq⟩ := hr
          repeat (first | exact hq | exact wpAny_pure hq | exact wpAny_truthy_bool hq | (refine wpAny_bind (m := truthy (.bool _)) (wpAny_truthy_bool ?_)) | wp_step)) fun _ _ e => e)))
    | wp_step)
theorem ne_K {Q : Value → Shared → Prop} (hu : A.units + 1 < cLine) (X : K.In s.heap) (I : PySem.W.InstAt s.heap x ox C od) (hb : PySem.W.Looks (model prog w) s.heap (typeOf b) tb) (hn : PySem.W.notFirst K C tb = true) (ho : PySem.W.mroIn K C (.type "object") = some true)
    (hs : PySem.W.findIn K (.ref C) "__ne__" = some (some (.builtin "object.__ne__"))) (he : PySem.W.findIn K (.ref C) "__eq__" = some (some (.ref f))) (hf : PySem.W.isFn K (.ref f) = true)
    (h : wpAny (model prog w) A.in1 (call (.ref f) [.ref x, b]) (fun v s' => ∃ k, v = .bool k ∧ Q (.bool (!k)) s') E s) : wpAny (model prog w) A (richCompare .NotEq (.ref x) b) Q E s := by
  have sub : PySem.W.Looks (model prog w) s.heap (isInstance (.ref x) (.type "object")) true := I.type.andThen (PySem.W.looks_mroIn X ho)
  have one : wpAny (model prog w) A (tryCompare (.ref x) "__ne__" b) (fun r s' => ∃ v, r = some v ∧ Q v s') E s := by
    unfold tryCompare
    refine wpAny_bind (ifBoundB X I PySem.F.cmp_object.ne hs (wpAny_call (codeAny_call_builtin PySem.F.cmp_object.ne.plain PySem.F.cmpEntry_ne (PySem.W.check_slot PySem.F.cmpKind_ne PySem.F.cmpSplit_ne sub (PySem.F.cmpArgs_ne _ _) ?_))))
    refine ne_entry (A := A.in1) hu X I he hf (wpAny_mono h (fun v s' hv => ?_) fun _ _ e => e)
    obtain ⟨k, rfl, hq⟩ := hv
    exact ⟨k, rfl, wpAny_pure ⟨_, rfl, hq⟩⟩
  unfold richCompare
  simp only [oneThing_ref]
  refine wpAny_holding (wpAny_bind (wpAny_cRoomFor (Nat.lt_of_succ_lt hu) ?_))
  refine wpAny_bind (I.type.here (wpAny_bind (hb.here ?_)))
  split
  · rename_i q
    have e : PySem.W.subIn K tb (.ref C) = some false := by
      rcases Bool.or_eq_true_iff.mp hn with e | e
      · rw [beq_iff_eq.mp e] at q; simp at q
      · exact beq_iff_eq.mp e
    refine wpAny_bind ((PySem.W.looks_subIn X e).here ?_)
    simp only [Bool.false_eq_true, if_false]
    refine wpAny_bind (wpAny_mono one (fun r s' z => ?_) fun _ _ e => e)
    obtain ⟨v, rfl, hq⟩ := z
    exact wpAny_pure hq
  · refine wpAny_bind (wpAny_pure ?_)
    simp only [Bool.false_eq_true, if_false]
    refine wpAny_bind (wpAny_mono one (fun r s' z => ?_) fun _ _ e => e)
    obtain ⟨v, rfl, hq⟩ := z
    exact wpAny_pure hq
end
/-! the words of a class with an own __eq__ -/
structure EqC (K : PySem.W.Frag) (C f : Addr) : Prop where
  eq : PySem.W.findIn K (.ref C) "__eq__" = some (some (.ref f))
  ne : PySem.W.findIn K (.ref C) "__ne__" = some (some (.builtin "object.__ne__"))
  fn : PySem.W.isFn K (.ref f) = true
  ob : PySem.W.mroIn K C (.type "object") = some true
def rEqO (C : Addr) (sp : Sp) (neg : Bool) : R2 := fun x y H Q => ∃ a b dx dy fs gs, x = .ref a ∧ y = .ref b ∧ H a = some (.ins C dx fs) ∧ H b = some (.ins C dy gs) ∧ sp [x, y] H (fun v H' => ∃ k, v = .bl k ∧ Q (.bl (if neg then !k else k)) H') (fun _ _ _ => False)
section
variable {X : Cx} {k : Nat} {f C : Addr} {fd : FuncData} {ps : List Str} {sp : Sp}
theorem run_eq {A : Around} {pins : List (Addr × Obj)} {σ : L2.St} {H : Hp} {s : Shared} {Q : VK} {a b : Addr} (F : FnOk X.prog X.w X.K X.mg X.base (L2.CX X.prog X.w) k f fd ps sp) (hr : Room k A) (hA : A.frames = X.A.frames) (hb : Binds X.K fd ps []) (I : Inv X pins σ H s) (h : sp [.ref a, .ref b] H Q (fun _ _ _ => False)) :
    wpAny (model X.prog X.w) A (call (.ref f) [.ref a, .ref b]) (EP X pins σ Q) X.xe s := by
  have e0 : Env0 X.prog X.w X.K X.mg X.base A X.stack s H := by
    have e := I.env0
    exact ⟨by rw [hA]; exact e.frames, e.mod, e.bs, e.bsz, e.funs, e.frf, e.hok, e.bare⟩
  have hl := F.len _ _ _ _ h
  have r2 : Vals [V.ref a, V.ref b] [Value.ref a, Value.ref b] := .cons rfl (.cons rfl .nil)
  refine wpAny_call (codeAny_mono (F.run A X.stack s H ⟨[.ref a, .ref b], []⟩ [.ref a, .ref b] [.ref a, .ref b] _ _ hr e0 (by
    have := hb s [.ref a, .ref b] I.kIn (by simpa using hl)
    simpa using this) r2 h) fun r s' hq => ?_)
  cases r with
  | error e =>
    obtain ⟨_, _, _, _, _, _, _, _, _, _, _, _, z⟩ := hq
    exact z.elim
  | ok fl =>
    cases fl with
    | ret w => exact I.after hq
    | next => exact False.elim hq
    | brk => exact False.elim hq
    | cont => exact False.elim hq
theorem op_eqO (c : EqC X.K C f) (F : FnOk X.prog X.w X.K X.mg X.base (L2.CX X.prog X.w) k f fd ps sp) (hr : Room k X.A) (hb : Binds X.K fd ps []) : OpR X (compareOp .Eq) (rEqO C sp false) := by
  intro pins s σ H x y u v Q I rx ry d
  obtain ⟨a, b, dx, dy, fs, gs, rfl, rfl, ha, hb', h⟩ := d
  cases rx
  cases ry
  obtain ⟨mA, J, _⟩ := ins_get I.hok ha
  obtain ⟨mB, J', _⟩ := ins_get I.hok hb'
  obtain ⟨od, J, _⟩ := J.look
  obtain ⟨od', J', _⟩ := J'.look
  obtain ⟨m, hF⟩ := I.fr
  show wpAny (model X.prog X.w) X.A (richCompare .Eq (.ref a) (.ref b)) (EP X pins σ Q) X.xe s
  refine PySem.W.cmp_K (op := .Eq) (tb := .ref C) hr.units0 hF I.ok.mod.kin J J'.type (by simp [PySem.W.notFirst]) c.eq c.fn ?_
  refine thn (run_eq F hr rfl hb I h) fun w s' ⟨z, H', I', rz, q, ez, hq⟩ => ?_
  subst ez
  cases rz
  exact ⟨V.bl q, H', I', rfl, hq⟩
theorem op_neO (c : EqC X.K C f) (F : FnOk X.prog X.w X.K X.mg X.base (L2.CX X.prog X.w) k f fd ps sp) (hr : Room (k + 1) X.A) (hb : Binds X.K fd ps []) : OpR X (compareOp .NotEq) (rEqO C sp true) := by
  intro pins s σ H x y u v Q I rx ry d
  obtain ⟨a, b, dx, dy, fs, gs, rfl, rfl, ha, hb', h⟩ := d
  cases rx
  cases ry
  obtain ⟨mA, J, _⟩ := ins_get I.hok ha
  obtain ⟨mB, J', _⟩ := ins_get I.hok hb'
  obtain ⟨od, J, _⟩ := J.look
  obtain ⟨od', J', _⟩ := J'.look
  show wpAny (model X.prog X.w) X.A (richCompare .NotEq (.ref a) (.ref b)) (EP X pins σ Q) X.xe s
  refine ne_K (tb := .ref C) (by have := hr.units; omega) I.kIn J J'.type (by simp [PySem.W.notFirst]) c.ob c.ne c.eq c.fn ?_
  refine thn (run_eq F hr.in1 rfl hb I h) fun w s' ⟨z, H', I', rz, q, ez, hq⟩ => ?_
  subst ez
  cases rz
  exact ⟨q, rfl, V.bl (!q), H', I', rfl, hq⟩
end
/-- == or !=: by f where both are of the class cn -/
def eqG (cn : Str) (f : Fn) (neg : Bool) (d1 d2 : D) (S : Store) : Rs D := match insOf S d1, insOf S d2 with
  | some (c1, _, _), some (c2, _, _) => if c1 = cn ∧ c2 = cn then match f [d1, d2] S with
      | .ok (.p (.bl k)) S' => .ok (.p (.bl (if neg then !k else k))) S'
      | _ => .no
    else .no
  | _, _ => lift2 (if neg then opNe else opEq) d1 d2 S
def eEqX (cn : Str) (f : Fn) (neg : Bool) (m1 m2 : M) : M := fun sl S => (m1 sl S).bind fun d1 S1 => (m2 sl S1).bind fun d2 S2 => eqG cn f neg d1 d2 S2
section
variable {C : Kx} {a b e : Expr} {pos p : Pos} {x cn : Str} {m1 m2 : M} {fn : Fn} {k : Nat} {f : Addr}
theorem eqG_post {neg : Bool} {σ : L2.St} {F H : Hp} {R : List Addr} {S : Store} {d1 d2 : D} {x y : V} {Q : VK} (rx : RelD C.K F R x d1) (ry : RelD C.K F R y d2) (rep : Rep C.K C.G F R S H)
    (post : Post C σ F R (RelD C.K) Q (eqG cn fn neg d1 d2 S)) : (if neg then rNeD C.X.K else rEqD C.X.K) x y H Q ∨ rEqO (He.ga C.X.K cn) (spF C.K 2 fn) neg x y H Q := by
  unfold eqG at post
  split at post
  · rename_i c1 k1 v1 c2 k2 v2 h1 h2
    by_cases hc : c1 = cn ∧ c2 = cn
    · rw [if_pos hc] at post
      obtain ⟨rfl, rfl⟩ := hc
      obtain ⟨a1, dx, fs, rfl, ea, _, _⟩ := insOf_at rx rep h1
      obtain ⟨a2, dy, gs, rfl, eb, _, _⟩ := insOf_at ry rep h2
      right
      refine ⟨a1, a2, dx, dy, fs, gs, rfl, rfl, ea, eb, rfl, C.G, F, R, S, [d1, d2], rep, .cons rx (.cons ry .nil), ?_⟩
      cases hf : fn [d1, d2] S with
      | no => rw [hf] at post; exact post.elim
      | exc _ _ => rw [hf] at post; exact post.elim
      | ok d S' =>
        rw [hf] at post
        cases d with
        | ref n => exact post.elim
        | p q =>
          cases q with
          | bl kk =>
            intro v F' R' H' h3 h4 h5 h6
            cases (show Rp C.K F' v (.bl kk) from h3)
            exact ⟨kk, rfl, post _ F' R' H' (show RelD C.K F' R' (.bl (if neg then !kk else kk)) (.p (.bl (if neg then !kk else kk))) from .bl _) h4 h5 h6⟩
          | _ => exact post.elim
    · rw [if_neg hc] at post; exact post.elim
  · left
    cases neg with
    | true => exact lift2_post rfl bv_ne rx ry rep post
    | false => exact lift2_post rfl bv_eq rx ry rep post
theorem ej_eqX (c : EqC C.X.K (He.ga C.X.K cn) f) (hF : C.form k f fn 2 []) (hr : Room (k + 1) C.X.A) (h1 : Ej C m1 a) (h2 : Ej C m2 b) (hm : behindInMarks .Eq b = false := by first | exact nomark _ | rfl) : Ej C (eEqX cn fn false m1 m2) (.Compare a [.Eq] [b] pos) := by
  obtain ⟨fd, ps, ds, dvs, g1, g2, g3, g4⟩ := hF
  have hd : dvs = [] := by cases (g4 fun _ => none); rfl
  subst hd
  cases g3
  exact .mk fun sl S σ F R H hs hr' Q post =>
    ED.of (pe_cmpR (OpR.or (op_eqD hr.units) (op_eqO c g1 (hr.mono (Nat.le_succ _)) g2)) pe_d pe_d hm) (h1 sl S σ F R H hs hr' _ (Post.bind post fun d1 S1 x F1 R1 H1 _ rx rep1 s1 r1 post1 => h2 sl S1 σ F1 R1 H1 (hs.mono s1 r1) rep1 _ (Post.bind post1 fun d2 S2 y F2 R2 H2 _ ry rep2 s2 r2 post2 => eqG_post (neg := false) (rx.mono s2 r2) ry rep2 post2)))
theorem ej_neX (c : EqC C.X.K (He.ga C.X.K cn) f) (hF : C.form k f fn 2 []) (hr : Room (k + 1) C.X.A) (h1 : Ej C m1 a) (h2 : Ej C m2 b) (hm : behindInMarks .NotEq b = false := by first | exact nomark _ | rfl) : Ej C (eEqX cn fn true m1 m2) (.Compare a [.NotEq] [b] pos) := by
  obtain ⟨fd, ps, ds, dvs, g1, g2, g3, g4⟩ := hF
  have hd : dvs = [] := by cases (g4 fun _ => none); rfl
  subst hd
  cases g3
  exact .mk fun sl S σ F R H hs hr' Q post =>
    ED.of (pe_cmpR (OpR.or (op_neD hr.units) (op_neO c g1 hr g2)) pe_d pe_d hm) (h1 sl S σ F R H hs hr' _ (Post.bind post fun d1 S1 x F1 R1 H1 _ rx rep1 s1 r1 post1 => h2 sl S1 σ F1 R1 H1 (hs.mono s1 r1) rep1 _ (Post.bind post1 fun d2 S2 y F2 R2 H2 _ ry rep2 s2 r2 post2 => eqG_post (neg := true) (rx.mono s2 r2) ry rep2 post2)))
/-! as tests -/
theorem asB_post {σ : L2.St} {F : Hp} {R : List Addr} {S : Store} {sl : Slots} {m : M} {Q : Bool → Hp → Prop} (post : Post C σ F R rB Q ((m sl S).bind asB)) : Post C σ F R (RelD C.K) (fun x H' => ∃ k, x = .bl k ∧ Q k H') (m sl S) :=
  Post.bind post fun d S1 x F1 R1 H1 _ rx rep1 s1 r1 post1 => by
    cases d with
    | ref n => exact post1.elim
    | p q =>
      cases q with
      | bl kk =>
        cases (show Rp C.K F1 x (.bl kk) from rx)
        exact ⟨kk, rfl, post1.okv rfl rep1⟩
      | _ => exact post1.elim
def tEqX (cn : Str) (f : Fn) (neg : Bool) (m1 m2 : M) : MT := fun sl S => (eEqX cn f neg m1 m2 sl S).bind asB
theorem tj_eqX (c : EqC C.X.K (He.ga C.X.K cn) f) (hF : C.form k f fn 2 []) (hr : Room (k + 1) C.X.A) (h1 : Ej C m1 a) (h2 : Ej C m2 b) (hm : behindInMarks .Eq b = false := by first | exact nomark _ | rfl) : Tj C (tEqX cn fn false m1 m2) (.Compare a [.Eq] [b] pos) := by
  obtain ⟨fd, ps, ds, dvs, g1, g2, g3, g4⟩ := hF
  have hd : dvs = [] := by cases (g4 fun _ => none); rfl
  subst hd
  cases g3
  exact .mk fun sl S σ F R H hs hr' Q post =>
    TD.of (pt_cmpR (OpR.or (op_eqD hr.units) (op_eqO c g1 (hr.mono (Nat.le_succ _)) g2)) pe_d pe_d hm) (h1 sl S σ F R H hs hr' _ (Post.bind (asB_post post) fun d1 S1 x F1 R1 H1 _ rx rep1 s1 r1 post1 => h2 sl S1 σ F1 R1 H1 (hs.mono s1 r1) rep1 _ (Post.bind post1 fun d2 S2 y F2 R2 H2 _ ry rep2 s2 r2 post2 => eqG_post (neg := false) (rx.mono s2 r2) ry rep2 post2)))
theorem tj_neX (c : EqC C.X.K (He.ga C.X.K cn) f) (hF : C.form k f fn 2 []) (hr : Room (k + 1) C.X.A) (h1 : Ej C m1 a) (h2 : Ej C m2 b) (hm : behindInMarks .NotEq b = false := by first | exact nomark _ | rfl) : Tj C (tEqX cn fn true m1 m2) (.Compare a [.NotEq] [b] pos) := by
  obtain ⟨fd, ps, ds, dvs, g1, g2, g3, g4⟩ := hF
  have hd : dvs = [] := by cases (g4 fun _ => none); rfl
  subst hd
  cases g3
  exact .mk fun sl S σ F R H hs hr' Q post =>
    TD.of (pt_cmpR (OpR.or (op_neD hr.units) (op_neO c g1 hr g2)) pe_d pe_d hm) (h1 sl S σ F R H hs hr' _ (Post.bind (asB_post post) fun d1 S1 x F1 R1 H1 _ rx rep1 s1 r1 post1 => h2 sl S1 σ F1 R1 H1 (hs.mono s1 r1) rep1 _ (Post.bind post1 fun d2 S2 y F2 R2 H2 _ ry rep2 s2 r2 post2 => eqG_post (neg := true) (rx.mono s2 r2) ry rep2 post2)))
end
/-! ### try, where nothing is raised -/
def Kx.trN (C : Kx) (pn : List (Addr × Obj)) (xe : Value → Shared → Prop) : Kx := ⟨C.X.tr pn xe, fun _ _ _ _ => False, fun _ _ ⟨_, _, _, _, _, _, _, _, _, _, _, _, _, _, _, _, z⟩ => z.elim, C.G⟩
def sTryN (mb : MS) : MS := fun sl S => match mb sl S with
  | .exc _ _ _ => .no
  | r => r
theorem sj_tryN {C : Kx} {mb : MS} {body : List Stmt} {h₀ : ExceptHandler} {hs₀ : List ExceptHandler} {pos : Pos} (hb : ∀ pn xe, Sj (C.trN pn xe) mb body) : Sj1 C (sTryN mb) (.Try body (h₀ :: hs₀) [] [] pos) := .mk fun sl S σ F R H hs hr D post => by
  intro pins s I
  have ok := I.ok
  have post' : ∀ pn xe, PostS (C.trN pn xe) F R D (mb sl S) := fun pn xe => by
    unfold sTryN at post
    cases hm : mb sl S with
    | exc _ _ _ => rw [hm] at post; exact post.elim
    | nx _ _ => rw [hm] at post; exact post
    | rt _ _ => rw [hm] at post; exact post
    | bk _ _ => rw [hm] at post; exact post
    | ct _ _ => rw [hm] at post; exact post
    | no => rw [hm] at post; exact post
  refine wpAny_Try_except ?_
  refine wpAny_mono ((hb (C.X.pn ++ pins) _ sl S σ F R H hs hr D (post' _ _)) [] s (I.toTry _)) (fun f s1 hsp => ?_) (fun e s1 he => he)
  cases f with
  | next =>
    obtain ⟨σ', H', J', q⟩ := hsp
    exact wpAny_execs_nil ⟨σ', H', J'.ofTry ok, q⟩
  | brk =>
    obtain ⟨σ', H', J', q⟩ := hsp
    exact ⟨σ', H', J'.ofTry ok, q⟩
  | cont =>
    obtain ⟨σ', H', J', q⟩ := hsp
    exact ⟨σ', H', J'.ofTry ok, q⟩
  | ret u =>
    obtain ⟨v, σ', H', J', r, q⟩ := hsp
    exact ⟨v, σ', H', J'.ofTry ok, r, q⟩
end Z

namespace Z
open PySem PySem.Spec PyProof.Rows L2
/-! ### isinstance with classes of the program -/
inductive KTy where
  | ty (n : String)
  | glo (c : Str)
deriving DecidableEq
def KTy.v (K : PySem.W.Frag) : KTy → Value
  | .ty n => .type n
  | .glo c => .ref (He.ga K c)
abbrev IsT := List (KTy × Str × Bool)
/-- an instance's class answers as usual -/
structure InsK (K : PySem.W.Frag) (C : Addr) : Prop where
  cl : Cls K C
  ha : PySem.W.findIn K (.ref C) "__class__" = some (some (.builtin "object.__class__"))
  hn : PySem.W.specialIn K (.builtin "object.__class__") "__get__" = some (some (.builtin "getset_descriptor.__get__"))
  tk : PySem.W.takesIn K (.builtin "object.__class__") = some true
  hm : PySem.W.mroIn K C (.type "object") = some true
structure IsOk (K : PySem.W.Frag) (tab : IsT) (cs : List Str) : Prop where
  is : ∀ q ∈ tab, PySem.W.kitOne K (q.1.v K) (.ref (He.ga K q.2.1)) = some q.2.2
  ins : ∀ c ∈ cs, InsK K (He.ga K c)
def isTabB (K : PySem.W.Frag) (tab : IsT) : Bool := tab.all fun q => decide (PySem.W.kitOne K (q.1.v K) (.ref (He.ga K q.2.1)) = some q.2.2)
def insKB (K : PySem.W.Frag) (C : Addr) : Bool := He.eqO (PySem.W.findIn K (.ref C) "__class__") (some (some (.builtin "object.__class__"))) && (He.eqO (PySem.W.specialIn K (.builtin "object.__class__") "__get__") (some (some (.builtin "getset_descriptor.__get__"))) && (decide (PySem.W.takesIn K (.builtin "object.__class__") = some true) && decide (PySem.W.mroIn K C (.type "object") = some true)))
theorem insK_of {K : PySem.W.Frag} {C : Addr} (c : Cls K C) (h : insKB K C = true) : InsK K C := by
  obtain ⟨h1, h⟩ := He.ba h
  obtain ⟨h2, h⟩ := He.ba h
  obtain ⟨h3, h4⟩ := He.ba h
  exact ⟨c, He.eqO_ok h1, He.eqO_ok h2, of_decide_eq_true h3, of_decide_eq_true h4⟩
def ktP (cs : List Str) : P → Option KTy
  | .ins c _ _ => if c ∈ cs then some (.glo c) else none
  | p => if plainP p = true then some (.ty (tyP p)) else none
def isiO (tab : IsT) (cs : List Str) : List P → Option P
  | [p, .glo c] => match ktP cs p with
    | some t => (tab.find? fun q => decide (q.1 = t ∧ q.2.1 = c)).map fun q => .bl q.2.2
    | none => none
  | [p, .ty n] => isiP [p, .ty n]
  | _ => none
section
variable {C : Kx} {a b c e o : Expr} {es rest : List Expr} {pos p apos : Pos} {x m cn : Str} {ma : MA} {mo : M} {fn : Fn} {k n : Nat} {dfl : List P} {f : Addr} {K : Fr} {tab : IsT} {cs : List Str}
theorem kt_tyx {F H : Hp} {v : V} {q : P} {t : KTy} (ok : IsOk K.K tab cs) (s : Same F H) (h : Vw K F H v q) (e : ktP cs q = some t) : TyX K.K H v (t.v K.K) := by
  have plain : plainP q = true → t = .ty (tyP q) → TyX K.K H v (t.v K.K) := fun hp et => by subst et; exact rp_tyx (h.rd s) hp
  cases q with
  | ins c ks ps =>
    simp only [ktP] at e
    obtain ⟨hc, rfl⟩ := if_some e
    have I := ok.ins c hc
    cases h with
    | p h =>
      cases h with
      | ins h1 h2 h3 h4 => exact .base (.ins (s _ _ h1) I.cl I.ha I.hn I.tk I.hm)
    | ins h1 h2 h3 h4 => exact .base (.ins h1 I.cl I.ha I.hn I.tk I.hm)
  | _ =>
    simp only [ktP] at e
    obtain ⟨hc, rfl⟩ := if_some e
    exact plain hc rfl
theorem cv_isiO (ok : IsOk K.K tab cs) : CallV K (rIsi K.K) (isiO tab cs) := fun ps z vs F H Q e hx s k => by
  unfold isiO at e
  split at e
  · rename_i q c
    obtain ⟨v, w, rfl, h1, h2⟩ := vw2 hx
    cases ht : ktP cs q with
    | none => rw [ht] at e; cases e
    | some t =>
      simp only [ht] at e
      cases hf : tab.find? (fun q => decide (q.1 = t ∧ q.2.1 = c)) with
      | none => rw [hf] at e; cases e
      | some r =>
        rw [hf] at e
        cases e
        have hr := of_decide_eq_true (List.find?_some (p := fun q : KTy × Str × Bool => decide (q.1 = t ∧ q.2.1 = c)) hf)
        have hk := ok.is r (List.mem_of_find?_eq_some hf)
        rw [hr.1, hr.2] at hk
        have hw : w = .ref (He.ga K.K c) := by cases h2 with | p h => cases h; rfl
        subst hw
        exact ⟨v, _, _, _, r.2.2, rfl, .own _, kt_tyx ok s h1 ht, hk, k _ F H (.bl _) (Grow.refl s)⟩
  · exact cv_isi _ z vs F H Q e hx s k
  · cases e
theorem ej_isiO (ok : IsOk C.X.K tab cs) (hm : C.X.mg "isinstance" = none) (h : Aj C ma (e :: es)) (hg : Gl C.X "isinstance" := by rfl) (he : Se C e es := by exact se_of rfl) (hpl : Pl C es pos := by exact pl_of rfl) : Ej C (eF (isiO tab cs) ma) (.Call (.Name "isinstance" p) (e :: es) [] pos) := ej_callB call_isi (cv_isiO ok) hm (by decide +kernel) h hg (he := he) (hpl := hpl)
/-! ### classmethods -/
theorem pe_cmethS {X : Cx} {CX : CXT} {C p g : Addr} {mc : Value} {sp : Sp} {E : L2.St → XK} {ta : TE} {t : TA} {k : Nat} {m : Str} {pos apos : Pos} {o e : Expr} {es : List Expr} {pl : Sem Bool} (he : PE X o ta) (r : ClX.CRead X.K C mc) (c : ClX.CMet X.K C mc m p g) (F : FnR X.prog X.w X.K X.mg X.base CX k g sp) (hr : Room k X.A) (hx : ∀ σ, PassesAt CX X σ (E σ)) (ha : PA X (e :: es) t)
    (hst : starEach (e :: es) X.env = (false, eval e X.env) :: starEach es X.env := by exact se_of rfl) (hpl : (backTo pos (starEach es X.env)).any (·.1) = false := by exact pl_of rfl)
    (ht : eval (.Call (.Attribute o m apos) (e :: es) [] pos) X.env = (do
      let ov ← eval o X.env
      standAt apos.atName
      let (f, first) ← holding [ov] (getMethod ov m pl)
      callWith pos f first (backTo pos (starEach (e :: es) X.env)) (backToKw pos (keywordEach [] X.env))) := by rfl) :
    PE X (.Call (.Attribute o m apos) (e :: es) [] pos) (fun σ H Q => ta σ H fun x H1 => x = .ref C ∧ t σ H1 fun vs H2 => sp (.ref C :: vs) H2 Q (E σ)) := by
  refine ⟨fun pins s σ H Q I h => ?_⟩
  refine PySem.W.methodCall_KW (pl := pl) (thn (he.run pins s σ H _ I h) fun u s1 ⟨x, H1, I1, rx, ex, q⟩ => ?_) ht
  subst ex
  obtain rfl : u = Value.ref C := rx
  refine ClX.getmethcm_ok I1 r c fun s2 I2 => ?_
  refine ClX.callwith_cm I2 (ClX.base_none I1 (Nat.le_refl _)) c.fi (thn (ha.run pos _ s2 σ H1 _ I2 q) fun us s3 ⟨vs, H2, I3, rv, q2⟩ => ⟨⟨ClX.pin_at I3, I3.kIn⟩, ?_⟩) hst hpl
  have z : wpAny (model X.prog X.w) X.A (call (.ref s1.heap.objs.size) us) (EP X ((s1.heap.objs.size, PySem.W.methodObj (.ref g) (.ref C)) :: pins) σ Q) X.xe s3 := by
    refine wpAny_call (PySem.W.method_call (ClX.pin_at I3) (codeAny_mono (F X.A X.stack s3 H2 (.ref C :: us) (.ref C :: vs) Q (E σ) hr I3.env0 (.cons rfl rv) q2) fun r s' hq => ?_))
    cases r with
    | error e => exact hx σ _ H2 s3 e s' I3 hq
    | ok fl =>
      cases fl with
      | ret u => exact I3.after hq
      | next => exact False.elim hq
      | brk => exact False.elim hq
      | cont => exact False.elim hq
  exact thn z fun _ _ y => ClX.unpinE y
def eCMeth (cn : Str) (n : Nat) (dfl : List P) (f : Fn) (mo : M) (ma : MA) : M := fun sl S => (mo sl S).bind fun d S1 => match d with
  | .p (.glo c) => if c = cn then (ma sl S1).bind fun ds S2 => if ds.length = n then f (.p (.glo cn) :: (ds ++ dfl.map .p)) S2 else .no else .no
  | _ => .no
theorem ej_cmeth {g pc : Addr} {mc : Value} {pl : Sem Bool} (r : ClX.CRead C.X.K (He.ga C.X.K cn) mc) (c : ClX.CMet C.X.K (He.ga C.X.K cn) mc m pc g) (hF : C.form k g fn (n + 1) dfl) (hr : Room k C.X.A) (h1 : Ej C mo o) (h2 : Aj C ma (e :: es)) (he : Se C e es := by exact se_of rfl) (hpl : Pl C es pos := by exact pl_of rfl)
    (ht : eval (.Call (.Attribute o m apos) (e :: es) [] pos) C.X.env = (do
      let ov ← eval o C.X.env
      standAt apos.atName
      let (f, first) ← holding [ov] (getMethod ov m pl)
      callWith pos f first (backTo pos (starEach (e :: es) C.X.env)) (backToKw pos (keywordEach [] C.X.env))) := by rfl) : Ej C (eCMeth cn n dfl fn mo ma) (.Call (.Attribute o m apos) (e :: es) [] pos) := .mk fun sl S σ F R H hs hr' Q post => by
  obtain ⟨fd, ps, ds, dvs, g1, g2, g3, g4⟩ := hF
  refine ED.of (pe_cmethS (pl := pl) pe_d r c (g1.raw g2 g3) hr (fun σ => passAt C.tk σ) pa_d he hpl ht) (h1 sl S σ F R H hs hr' _ (Post.bind post fun d S1 v F1 R1 H1 _ rv rep1 s1 r1 post1 => ?_))
  cases d with
  | ref n => exact post1.elim
  | p q =>
    cases q with
    | glo c' =>
      cases (show Rp C.K F1 v (.glo c') from rv)
      simp only [] at post1
      by_cases hc : c' = cn
      · rw [if_pos hc] at post1
        subst hc
        refine ⟨rfl, h2 sl S1 σ F1 R1 H1 (hs.mono s1 r1) rep1 _ (Post.bind post1 fun ds' S2 vs F2 R2 H2 _ rd rep2 s2 r2 post2 => ?_)⟩
        by_cases hl : ds'.length = n
        · rw [if_pos hl] at post2
          have rr := rd.append (RelAll.of_p (R := R2) (g4 F2))
          exact ⟨by rw [List.cons_append, List.length_cons, rr.length, len_app hl]; omega, C.G, F2, R2, S2, _, rep2, .cons (show RelD C.K F2 R2 (.ref (He.ga C.X.K c')) (.p (.glo c')) from .glo c') rr, post_of post2⟩
        · rw [if_neg hl] at post2; exact post2.elim
      · rw [if_neg hc] at post1; exact post1.elim
    | _ => exact post1.elim
/-! ### C(..), C held by a local -/
def eMakeL (cn : Str) (n : Nat) (dfl : List P) (f : Fn) (i : Nat) (ma : MA) : M := fun sl S => match sl[i]? with
  | some (some (.p (.glo c))) => if c = cn then eMake cn n dfl f ma sl S else .no
  | _ => .no
theorem pe_makeL {X : Cx} {CX : CXT} {C f : Addr} {k i : Nat} {fd : FuncData} {ps : List Str} {sp : Sp} {dvs : List V} {ds : List Value} {E : L2.St → XK} {x : Str} {p pos : Pos} {e : Expr} {es : List Expr} {t : TA} (M : L2.Mk X.K C f) (F : FnOk X.prog X.w X.K X.mg X.base CX k f fd ps sp) (hr : Room (k + 1) X.A) (hN : X.N[i]? = some x) (hv : Vis X.env.scope x) (hb : Binds X.K fd ps ds) (hd : Vals dvs ds) (hx : ∀ σ, PassesAt CX X σ (E σ))
    (ha : PA X (e :: es) t) (hdb : (x == ("__debug__" : Str)) = false := by decide) (hcd : (x == ("__classdict__" : Str)) = false := by decide) (he : starEach (e :: es) X.env = (false, eval e X.env) :: starEach es X.env := by exact se_of rfl) (hpl : (backTo pos (starEach es X.env)).any (·.1) = false := by exact pl_of rfl) :
    PE X (.Call (.Name x p) (e :: es) [] pos) (fun σ H Q => σ[i]? = some (some (.ref C)) ∧ tMakeS C sp dvs E t σ H Q) := by
  refine ⟨fun pins s σ H Q I h => ?_⟩
  obtain ⟨hs, h⟩ := h
  refine wpAny_Call_Name_kw (thn ((pe_var (pos := p) hN hv hdb hcd).run pins s σ H (fun v H1 => v = .ref C ∧ H = H1) I ⟨.ref C, hs, rfl, rfl⟩) fun u s1 ⟨v, H1, I1, r1, q1⟩ => ?_)
  obtain ⟨rfl, rfl⟩ := q1
  cases r1
  refine PySem.W.callWith_K (h₀ := X.base) I.ok.mod.kin M.kp (thn (ha.run pos pins s1 σ _ _ I1 h) fun us s2 ⟨vs, H2, I2, r, q⟩ => ⟨I2.kIn, ?_⟩) he hpl
  exact run_makeS M F hr hb hd (hx σ) I2 r q
theorem pe_makeL0 {X : Cx} {CX : CXT} {C f : Addr} {k i : Nat} {fd : FuncData} {ps : List Str} {sp : Sp} {dvs : List V} {ds : List Value} {E : L2.St → XK} {x : Str} {p pos : Pos} (M : L2.Mk X.K C f) (F : FnOk X.prog X.w X.K X.mg X.base CX k f fd ps sp) (hr : Room (k + 1) X.A) (hN : X.N[i]? = some x) (hv : Vis X.env.scope x) (hb : Binds X.K fd ps ds) (hd : Vals dvs ds) (hx : ∀ σ, PassesAt CX X σ (E σ))
    (hdb : (x == ("__debug__" : Str)) = false := by decide) (hcd : (x == ("__classdict__" : Str)) = false := by decide) :
    PE X (.Call (.Name x p) [] [] pos) (fun σ H Q => σ[i]? = some (some (.ref C)) ∧ tMakeS C sp dvs E tNil σ H Q) := by
  refine ⟨fun pins s σ H Q I h => ?_⟩
  obtain ⟨hs, h⟩ := h
  refine wpAny_Call_Name_kw (thn ((pe_var (pos := p) hN hv hdb hcd).run pins s σ H (fun v H1 => v = .ref C ∧ H = H1) I ⟨.ref C, hs, rfl, rfl⟩) fun u s1 ⟨v, H1, I1, r1, q1⟩ => ?_)
  obtain ⟨rfl, rfl⟩ := q1
  cases r1
  exact PySem.W.callWith_K0 I1.kIn M.kp (run_makeS (us := []) M F hr hb hd (hx σ) I1 .nil h)
theorem makeL_at {i : Nat} {σ : L2.St} {F : Hp} {R : List Addr} {S : Store} {sl : Slots} {Q : VK} (hs : SlR C.K F R σ sl) (post : Post C σ F R (RelD C.K) Q (eMakeL cn n dfl fn i ma sl S)) : σ[i]? = some (some (.ref (He.ga C.X.K cn))) ∧ Post C σ F R (RelD C.K) Q (eMake cn n dfl fn ma sl S) := by
  unfold eMakeL at post
  split at post
  · rename_i c hi
    by_cases hc : c = cn
    · rw [if_pos hc] at post
      subst hc
      obtain ⟨v, e1, e2⟩ := hs.2 _ _ hi
      cases (show Rp C.K F v (.glo c) from e2)
      exact ⟨e1, post⟩
    · rw [if_neg hc] at post; exact post.elim
  · exact post.elim
theorem ej_makeL (i : Nat) (hM : L2.Mk C.X.K (He.ga C.X.K cn) f) (hF : C.form k f fn (n + 1) dfl) (hr : Room (k + 1) C.X.A) (h2 : Aj C ma (e :: es)) (hN : C.X.N[i]? = some x := by rfl) (hv : Vis C.X.env.scope x := by first | exact Or.inl rfl | exact Or.inr (Or.inl rfl) | exact Or.inr (Or.inr rfl)) (hdb : (x == ("__debug__" : Str)) = false := by decide) (hcd : (x == ("__classdict__" : Str)) = false := by decide) (he : Se C e es := by exact se_of rfl) (hpl : Pl C es pos := by exact pl_of rfl) :
    Ej C (eMakeL cn n dfl fn i ma) (.Call (.Name x p) (e :: es) [] pos) := .mk fun sl S σ F R H hs hr' Q post => by
  obtain ⟨fd, ps, ds, dvs, g1, g2, g3, g4⟩ := hF
  obtain ⟨q1, q2⟩ := makeL_at hs post
  exact ED.of (pe_makeL hM g1 hr hN hv g2 g3 (fun σ => passAt C.tk σ) pa_d hdb hcd he hpl) ⟨q1, make_read rfl rfl g4 h2 hs hr' q2⟩
theorem ej_makeL0 (i : Nat) (hM : L2.Mk C.X.K (He.ga C.X.K cn) f) (hF : C.form k f fn 1 dfl) (hr : Room (k + 1) C.X.A) (hN : C.X.N[i]? = some x := by rfl) (hv : Vis C.X.env.scope x := by first | exact Or.inl rfl | exact Or.inr (Or.inl rfl) | exact Or.inr (Or.inr rfl)) (hdb : (x == ("__debug__" : Str)) = false := by decide) (hcd : (x == ("__classdict__" : Str)) = false := by decide) :
    Ej C (eMakeL cn 0 dfl fn i aN) (.Call (.Name x p) [] [] pos) := .mk fun sl S σ F R H hs hr' Q post => by
  obtain ⟨fd, ps, ds, dvs, g1, g2, g3, g4⟩ := hF
  obtain ⟨q1, q2⟩ := makeL_at hs post
  exact ED.of (pe_makeL0 hM g1 hr hN hv g2 g3 (fun σ => passAt C.tk σ) hdb hcd) ⟨q1, make_read (n := 0) rfl rfl g4 (fun sl S σ F R H hs hr Q post => (post.okv .nil hr : Q [] H)) hs hr' q2⟩
/-- frozen at once -/
def eFz (m : M) : M := fun sl S => froz S.length (m sl S)
theorem ej_fz (h : Ej C mo e) : Ej C (eFz mo) e := .mk fun sl S σ F R H hs hr' Q post => h sl S σ F R H hs hr' Q (froz_postC hr' post)
end
end Z

namespace Z
open PySem PySem.Spec PyProof.Rows L2
/-! ### the head: facts, tables, defs at any address -/
abbrev AlZ : Type := He.AlT × (Bool × List He.FnW)
def obZ (fa : List He.Fa) (ts : List He.Tab) (fn : List He5.DefA) (ex : PySem.W.Frag → Bool) (K : PySem.W.Frag) : AlZ := (He.obsT fa [] ts K, ((fn.all fun d => d.ok K) && ex K, fn.map fun d => He5.fnA K (d.at_ K)))
def obsZ (n : Nat) (fa : List He.Fa) (ts : List He.Tab) (fn : List He5.DefA) (ex : PySem.W.Frag → Bool) (g : Addr → Option Obj) : AlZ := obZ fa ts fn ex (He.frT g (He5.asA g n))
def valZ (ts : List He.Tab) (fn : List He5.DefA) (w : World) : AlZ := (He.valT [] ts w, (true, fn.map He5.DefA.val))
def SaysZ (fa : List He.Fa) (ts : List He.Tab) (fn : List He5.DefA) (ex : PySem.W.Frag → Bool) (w : World) (K : PySem.W.Frag) : Prop := obZ fa ts fn ex K = valZ ts fn w
def hookZ (n : Nat) (fa : List He.Fa) (ts : List He.Tab) (fn : List He5.DefA) (ex : PySem.W.Frag → Bool) : PySem.W.Hook where
  α := AlZ
  obs := fun s => obsZ n fa ts fn ex s.heap.get?
  val := fun w => valZ ts fn w
  says := fun w h => ∃ K : PySem.W.Frag, K.In h ∧ SaysZ fa ts fn ex w K
  of := fun _ _ e => ⟨_, He.frT_in, e⟩
  keeps := fun _ _ _ ⟨K, hK, c⟩ k => ⟨K, PySem.W.Frag.In.keeps hK k, c⟩
theorem obsZ_eq {n : Nat} {fa : List He.Fa} {ts : List He.Tab} {fn : List He5.DefA} {ex : PySem.W.Frag → Bool} {g : Addr → Option Obj} {s : Shared} (h : ∀ a, g a = s.heap.get? a) : obsZ n fa ts fn ex g = (hookZ n fa ts fn ex).obs s := by
  have e : g = s.heap.get? := funext h
  rw [e] <;> rfl
section
variable {fa : List He.Fa} {ts : List He.Tab} {fn : List He5.DefA} {ex : PySem.W.Frag → Bool} {w : World} {K : PySem.W.Frag}
theorem SaysZ.t (c : SaysZ fa ts fn ex w K) : He.SaysT fa [] ts w K := congrArg (fun z : AlZ => z.1) c
theorem SaysZ.fact (c : SaysZ fa ts fn ex w K) (i : Nat) {f : He.Fa} (h : fa[i]? = some f := by rfl) : f.ok K = true := c.t.d.fact i h
theorem SaysZ.tab (c : SaysZ fa ts fn ex w K) (i : Nat) {t : He.Tab} (h : ts[i]? = some t := by rfl) : ∃ es n, KDict K w (t.1 K) es n := c.t.tab i h
theorem SaysZ.ok (c : SaysZ fa ts fn ex w K) : (fn.all fun d => d.ok K) = true ∧ ex K = true := He.ba (show ((fn.all fun d => d.ok K) && ex K) = true from congrArg (fun z : AlZ => z.2.1) c)
theorem SaysZ.def_ (c : SaysZ fa ts fn ex w K) (i : Nat) {d : He5.DefA} (h : fn[i]? = some d := by rfl) : ∃ fd, FunD K d.name d.qual d.params d.body d.scope (d.dvs K) (d.kws K) (d.at_ K) fd := by
  have e : fn.map (fun d => He5.fnA K (d.at_ K)) = fn.map He5.DefA.val := congrArg (fun z : AlZ => z.2.2) c
  have e2 : (fn.map fun d => He5.fnA K (d.at_ K))[i]? = (fn.map He5.DefA.val)[i]? := by rw [e]
  rw [List.getElem?_map, List.getElem?_map, h] at e2
  exact He5.DefA.funD (Option.some.inj e2) (List.all_eq_true.mp c.ok.1 d (List.mem_of_getElem? h))
end
/-! ### words of classes, by a look at the written part -/
def eqCB (K : PySem.W.Frag) (C : Addr) : Bool := He.eqO (PySem.W.findIn K (.ref C) "__eq__") (some (some (.ref (He.ma K C "__eq__")))) && (He.eqO (PySem.W.findIn K (.ref C) "__ne__") (some (some (.builtin "object.__ne__"))) && (PySem.W.isFn K (.ref (He.ma K C "__eq__")) && decide (PySem.W.mroIn K C (.type "object") = some true)))
theorem eqC_of {K : PySem.W.Frag} {C : Addr} (h : eqCB K C = true) : EqC K C (He.ma K C "__eq__") := by
  obtain ⟨h1, h⟩ := He.ba h
  obtain ⟨h2, h⟩ := He.ba h
  obtain ⟨h3, h4⟩ := He.ba h
  exact ⟨He.eqO_ok h1, He.eqO_ok h2, h3, of_decide_eq_true h4⟩
theorem isTab_of {K : PySem.W.Frag} {tab : IsT} (h : isTabB K tab = true) : ∀ q ∈ tab, PySem.W.kitOne K (q.1.v K) (.ref (He.ga K q.2.1)) = some q.2.2 := fun q hq => of_decide_eq_true (List.all_eq_true.mp h q hq)
def cReadB (K : PySem.W.Frag) (C : Addr) : Bool := PySem.W.readsIn K C (.type "type") && He.eqO (PySem.W.specialIn K (.ref C) "__getattribute__") (some (some (.builtin "type.__getattribute__")))
theorem cRead_of {K : PySem.W.Frag} {C : Addr} (h : cReadB K C = true) : ClX.CRead K C (.type "type") := by
  obtain ⟨h1, h2⟩ := He.ba h
  exact ⟨h1, He.eqO_ok h2⟩
def cMetB (K : PySem.W.Frag) (C : Addr) (m : Str) : Bool := He5.wrapB K C "classmethod" "classmethod.__get__" m && PySem.W.fnIn K (He5.wf K C "classmethod" m)
theorem cMet_of {K : PySem.W.Frag} {C : Addr} {m : Str} (h : cMetB K C m = true) : ClX.CMet K C (.type "type") m (He.ma K C m) (He5.wf K C "classmethod" m) := by
  obtain ⟨h1, h2⟩ := He.ba h
  exact He5.cmet_of h1 h2
/-- an empty tuple of the text, at a -/
def nilB (K : PySem.W.Frag) (a : Addr) : Bool := match K.lookup a with
  | some ⟨.type "tuple", _, .seq its _, _⟩ => its.isEmpty
  | _ => false
theorem nil_of {K : Fr} {F : Hp} {a : Addr} (h : nilB K.K a = true) : Rp K F (.ref a) (.tup []) := by
  unfold nilB at h
  split at h
  · rename_i d its n sl e
    have hi : its = #[] := by simpa using h
    subst hi
    exact .tupW (.inr ⟨_, #[], _, e, rfl, rfl, by decide, .nil⟩) .nil rfl
  · cases h
end Z

namespace Z
open PySem PySem.Spec PyProof.Rows L2
/-! ### new lists that stay live -/
section
variable {C : Kx} {a b c e tg iter elt : Expr} {es rest : List Expr} {pos pos' p : Pos} {x : Str} {m me : M} {t : MT} {ms : MI} {K : Fr} {g : TG} {eff : Eff} {js vs : List Nat} {wi : TI} {scope : Scope} {own : List (Str × Nat)} {ma : MA}
theorem Rep.liven {G F H : Hp} {R : List Addr} {S : Store} {l : Addr} {o : HO} {c : Cell} (h : Rep K (upd G l o) F R S H) (n : G l = none) (hc : CellOk K F (R ++ [l]) l (one l o) c) : Rep K G F (R ++ [l]) (S ++ [c]) H := by
  obtain ⟨pc, h⟩ := h
  obtain ⟨q1, q2, q3⟩ := h.grd l o upd_same
  have h0 : Rep K G F R S (fun b => if b = l then none else H b) := by
    refine ⟨pc, fun a u e => ?_, h.len, h.ok, fun m a u e => ?_, h.sep, h.emp, fun a u e => ?_⟩
    · have ha : a ≠ l := fun z => by subst z; rw [q2] at e; cases e
      show (if a = l then none else H a) = some u
      rw [if_neg ha]; exact h.sub _ _ e
    · obtain ⟨z1, z2⟩ := h.out m a u e
      have ha : a ≠ l := fun z => by subst z; rw [q3 m] at e; cases e
      refine ⟨z1, ?_⟩
      show (if a = l then none else H a) = some u
      rw [if_neg ha]; exact z2
    · have ha : a ≠ l := fun z => by subst z; rw [n] at e; cases e
      obtain ⟨z1, z2, z3⟩ := h.grd a u (by rw [upd_ne ha]; exact e)
      refine ⟨?_, z2, z3⟩
      show (if a = l then none else H a) = some u
      rw [if_neg ha]; exact z1
  have e : upd (fun b => if b = l then none else H b) l o = H := by
    funext b
    by_cases hb : b = l
    · subst hb; rw [upd_same, q1]
    · rw [upd_ne hb]
      show (if b = l then none else H b) = H b
      rw [if_neg hb]
  have := h0.push1 (a := l) (o := o) (c := c) (if_pos rfl) hc
  rw [e] at this
  exact this
def eLcL (ms : MI) (eff : Eff) (t : MT) (me : M) (own : List Nat) : M := fun sl S => (ms sl S).bind fun its S1 => (lcL eff t me own sl its [] S1).bind fun ps S2 => .ok (.ref S2.length) (S2 ++ [.lst (ps.map .p)])
theorem lc_readL {tt : TT} {te : TE} {σ : L2.St} {F H : Hp} {R : List Addr} {sl : Slots} {S : Store} {Q : VK} (hs : SlR C.K F R σ sl) (hr : Rep C.K C.G F R S H) (hsrc : SrcOk C wi ms) (ho : GOk C.K g eff js) (hj : ∀ j ∈ js, j ∈ vs) (ht : TurnOk C tt te t me)
    (post : Post C σ F R (RelD C.K) Q (eLcL ms eff t me vs sl S)) : tLc wi g tt te vs σ H Q := by
  refine hsrc sl S σ F R H hs hr _ (Post.bind post fun its S1 J F1 R1 H1 _ ok rep1 s1 r1 post1 => ?_)
  intro D hD
  have hs1 := hs.mono s1 r1
  have nG := rep1.gnone hD
  let Pv : Nat → Hp → Prop := fun i H => ∃ (F2 : Hp) (R2 : List Addr) (S2 : Store) (acc : List P) (ws : List V), Same F1 F2 ∧ R1 <+: R2 ∧ Rep C.K (upd C.G D (.lst ws)) F2 R2 S2 H ∧ RpAll C.K F2 ws acc ∧ Post C σ F2 R2 (RelD C.K) Q ((lcL eff t me vs sl (its.drop i) acc S2).bind fun ps S2 => .ok (.ref S2.length) (S2 ++ [.lst (ps.map .p)]))
  have start : Pv 0 (upd H1 D (.lst [])) := ⟨F1, R1, S1, [], [], Same.refl _, pre_refl, rep1.guard hD, .nil, post1⟩
  refine ⟨fun i m H => m = its.length - i ∧ i ≤ its.length ∧ Pv i H, ⟨its.length, rfl, Nat.zero_le _, start⟩, ?_⟩
  rintro i m H ⟨rfl, hi, F2, R2, S2, acc, ws, s2, r2, rep2, hr2, post2⟩
  by_cases hlt : i < its.length
  · have hit : its[i]? = some its[i] := List.getElem?_eq_getElem hlt
    have hd : its.drop i = its[i] :: its.drop (i + 1) := List.drop_eq_getElem_cons hlt
    rw [hd] at post2
    obtain ⟨g1, g2⟩ := ok.go i _ F2 H hit s2 rep2.sub
    refine .inr ⟨g1, Pv (i + 1), fun H' p' => ⟨its.length - (i + 1), by omega, rfl, hlt, p'⟩, fun v H' hy => ?_⟩
    obtain ⟨F3, gr3, rv⟩ := g2 v H' hy
    have rep3 := rep2.grow gr3
    simp only [lcL] at post2
    cases he : eff its[i] (wipeS sl vs) with
    | none => simp only [he] at post2; exact post2.elim
    | some sl3 =>
      simp only [he] at post2
      refine ho _ _ sl3 _ F3 R2 H' v _ he rv ((hs1.mono (s2.trans gr3.sF) r2).wipe vs) gr3.sub fun σ3 hs3 off => ?_
      refine ⟨by rw [off.wipe hj, wipe_wipe], ?_⟩
      have e1 : Same F1 F3 := s2.trans gr3.sF
      cases htt : t sl3 S2 with
      | exc x S4 => simp only [htt] at post2; exact post2.elim
      | no => simp only [htt] at post2; exact post2.elim
      | ok b S4 =>
        refine ht.t _ sl3 S2 σ3 F3 R2 H' hs3 rep3 b S4 htt _ fun F4 R4 H4 rep4 s4 r4 => ?_
        have post2 := Post.mono post2 (gr3.sF.trans s4) r4
        cases b with
        | false =>
          simp only [htt] at post2
          show Pv (i + 1) H4
          exact ⟨F4, R4, S4, acc, ws, e1.trans s4, pre_trans r2 r4, rep4, RpAll.mono (gr3.sF.trans s4) _ _ hr2, post2⟩
        | true =>
          simp only [htt] at post2
          show te σ3 H4 _
          cases hme : me sl3 S4 with
          | exc x S5 => simp only [hme] at post2; exact post2.elim
          | no => simp only [hme] at post2; exact post2.elim
          | ok d S5 =>
            cases d with
            | ref n => simp only [hme] at post2; exact post2.elim
            | p z =>
              simp only [hme] at post2
              refine ht.e _ sl3 S4 σ3 F4 R4 H4 (hs3.mono s4 r4) rep4 _ S5 hme _ fun y F5 R5 H5 ry rep5 s5 r5 => ?_
              have post2 := Post.mono post2 s5 r5
              have hr5 := RpAll.mono ((gr3.sF.trans s4).trans s5) _ _ hr2
              by_cases hl : acc.length < sizeLine
              · simp only [if_pos hl] at post2
                have hD5 : H5 D = some (.lst ws) := by
                  obtain ⟨pc, q⟩ := rep5
                  exact (q.grd D _ upd_same).1
                refine ⟨ws, hD5, by rw [hr5.length]; exact hl, F5, R5, S5, acc ++ [z], ws ++ [y], (e1.trans s4).trans s5, pre_trans (pre_trans r2 r4) r5, rep5.regrow, hr5.append (.cons ry .nil), post2⟩
              · simp only [if_neg hl] at post2; exact post2.elim
  · have e : i = its.length := by omega
    subst e
    rw [List.drop_length] at post2
    refine .inl ⟨ok.stop F2 H s2 rep2.sub, ?_⟩
    have hD2 : H D = some (.lst ws) := by
      obtain ⟨pc, q⟩ := rep2
      exact (q.grd D _ upd_same).1
    have rep4 := rep2.liven (c := .lst (acc.map .p)) nG (.lst (RelAll.of_p (R := R2 ++ [D]) hr2))
    exact post2 (.ref D) F2 (R2 ++ [D]) H (show RelD C.K F2 (R2 ++ [D]) (.ref D) (.ref S2.length) from ⟨D, last_get rep2.len, rfl⟩) rep4 (Same.refl _) pre_app
theorem ej_lcL0 (hc : C.X.calm = true) (hN : C.X.N.Nodup) (hi : PI C.X tg iter wi) (hsrc : SrcOk C wi ms) (ok : BlkOk C.X.N C.X.env.scope scope own) (hg : TgB C scope tg g) (ho : GOk C.K g eff js) (hj : ∀ j ∈ js, j ∈ own.map (·.2)) (he : EjB C scope me elt)
    (hf : ∀ x, foldedSetIterable iter C.X.env x = pure x := by intro _; rfl) : Ej C (eLcL ms eff tYes me (own.map (·.2))) (.ListComp elt [⟨tg, iter, [], 0⟩] scope pos) := .mk fun sl S σ F R H hs hr Q post =>
  ED.of (pe_lc hc hN hi ok hg (fun _ _ _ _ _ => pts_nil) (fun s H Cc cl fp => pe_b s H Cc cl fp) hf) (lc_readL hs hr hsrc ho hj ⟨fun G sl S σ F R H hs hr b S1 e Q k => by cases e; exact k F R H hr (Same.refl _) pre_refl, turn_e he⟩ post)
theorem ej_lcL1 (hc : C.X.calm = true) (hN : C.X.N.Nodup) (hi : PI C.X tg iter wi) (hsrc : SrcOk C wi ms) (ok : BlkOk C.X.N C.X.env.scope scope own) (hg : TgB C scope tg g) (ho : GOk C.K g eff js) (hj : ∀ j ∈ js, j ∈ own.map (·.2)) (htt : TjB C scope t c) (he : EjB C scope me elt)
    (hf : ∀ x, foldedSetIterable iter C.X.env x = pure x := by intro _; rfl) : Ej C (eLcL ms eff t me (own.map (·.2))) (.ListComp elt [⟨tg, iter, [c], 0⟩] scope pos) := .mk fun sl S σ F R H hs hr Q post =>
  ED.of (pe_lc hc hN hi ok hg (fun s H Cc cl fp => pts_one (pt_b s H Cc cl fp)) (fun s H Cc cl fp => pe_b s H Cc cl fp) hf) (lc_readL hs hr hsrc ho hj ⟨turn_t htt, turn_e he⟩ post)
/-! list(..), str(..) -/
def eListL (ma : MA) : M := fun sl S => (ma sl S).bind fun ds S1 => match views S1 ds with
  | some qs => match listP qs with
    | some (.lst ps) => .ok (.ref S1.length) (S1 ++ [.lst (ps.map .p)])
    | _ => .no
  | none => .no
theorem list_vw {F H : Hp} {qs : List P} {ps : List P} {vs : List V} (s : Same F H) (e : listP qs = some (.lst ps)) (hx : VwAll K F H vs qs) : ∃ p ys, vs = [.ref p] ∧ (SqL K.K H p ys ∨ SqT K.K H p ys) ∧ RpAll K F ys ps := by
  unfold listP at e
  split at e
  · obtain ⟨v, rfl, h⟩ := vw1 hx
    cases e
    obtain ⟨a, ws, rfl, h1, h2⟩ := h.lstE s
    exact ⟨a, ws, rfl, .inl (.inl (.inl h1)), h2⟩
  · obtain ⟨v, rfl, h⟩ := vw1 hx
    cases e
    obtain ⟨a, ws, rfl, h1, h2⟩ := h.tupE
    exact ⟨a, ws, rfl, .inr (same_sqT s h1), h2⟩
  · obtain ⟨v, rfl, h⟩ := vw1 hx
    cases e
    obtain ⟨a, rfl, h1⟩ := h.scrE s
    refine ⟨a, _, rfl, .inl h1, ?_⟩
    rename_i ns
    clear h1 h hx
    induction ns with
    | nil => exact .nil
    | cons n ns ih => exact .cons (.int n) ih
  · cases e
theorem ej_listL (hm : C.X.mg "list" = none) (h : Aj C ma (e :: es)) (hg : Gl C.X "list" := by rfl) (he : Se C e es := by exact se_of rfl) (hpl : Pl C es pos := by exact pl_of rfl) : Ej C (eListL ma) (.Call (.Name "list" p) (e :: es) [] pos) := .mk fun sl S σ F R H hs hr Q post =>
  ED.of (pe_callTy call_list_of hg hm (by decide +kernel) pa_d (by decide) (by decide) he hpl) (h sl S σ F R H hs hr _ (Post.bind post fun ds S1 vs F1 R1 H1 _ rx rep1 s1 r1 post1 => by
    cases hv : views S1 ds with
    | none => simp only [hv] at post1; exact post1.elim
    | some qs =>
      simp only [hv] at post1
      split at post1
      · rename_i ps hl
        obtain ⟨p, ys, rfl, h1, h2⟩ := list_vw rep1.sub hl (views_vw rx rep1 hv)
        refine ⟨p, ys, rfl, h1, fun l hn => ?_⟩
        exact post1 _ F1 (R1 ++ [l]) _ (show RelD C.K _ _ _ (.ref S1.length) from ⟨l, last_get rep1.len, rfl⟩) (rep1.push1 hn (.lst (RelAll.of_p (R := R1 ++ [l]) h2))) (Same.refl _) pre_app
      · exact post1.elim))
def strQ : List P → Option P
  | [.str z] => some (.str z)
  | ps => strP ps
theorem cv_strQ : CallV K (fun xs H Q => (fun xs H Q => ∃ i, xs = [.int i] ∧ i.natAbs.log2 < 1920 ∧ Q (.str (toString i)) H) xs H Q ∨ (fun xs H Q => ∃ a, xs = [.str a] ∧ Q (.str a) H) xs H Q) strQ := fun ps z vs F H Q e hx s k => by
  unfold strQ at e
  split at e
  · obtain ⟨v, rfl, h⟩ := vw1 hx
    cases e
    cases h.str
    exact .inr ⟨_, rfl, k _ F H (.str _) (Grow.refl s)⟩
  · exact .inl (cv_str _ z vs F H Q e hx s k)
theorem ej_strQ (hm : C.X.mg "str" = none) (h : Aj C ma (e :: es)) (hg : Gl C.X "str" := by rfl) (he : Se C e es := by exact se_of rfl) (hpl : Pl C es pos := by exact pl_of rfl) : Ej C (eF strQ ma) (.Call (.Name "str" p) (e :: es) [] pos) := ej_callTy (CallR.or call_str_int SkE.call_str_str) cv_strQ hm (by decide +kernel) h hg (he := he) (hpl := hpl)
end
end Z

namespace Z
open PySem PySem.Spec PyProof.Rows L2
/-! ### name = [..] on one line -/
section
variable {C : Kx} {c tg iter elt : Expr} {pos pos' spos : Pos} {x : Str} {me : M} {t : MT} {ms : MI} {g : TG} {eff : Eff} {js : List Nat} {wi : TI} {scope : Scope} {own : List (Str × Nat)}
theorem sj_setLc0 (i : Nat) (hc : C.X.calm = true) (hN : C.X.N.Nodup) (hi : PI C.X tg iter wi) (hsrc : SrcOk C wi ms) (ok : BlkOk C.X.N C.X.env.scope scope own) (hg : TgB C scope tg g) (ho : GOk C.K g eff js) (hj : ∀ j ∈ js, j ∈ own.map (·.2)) (he : EjB C scope me elt)
    (hf : ∀ x, foldedSetIterable iter C.X.env x = pure x := by intro _; rfl) (hy : C.X.N[i]? = some x := by rfl) (hyl : C.X.env.scope.names.lookup x = some .local := by rfl)
    (hw : swapsWith (.ListComp elt [⟨tg, iter, [], 0⟩] scope pos) (some (.Name x pos')) spos.line C.X.env = pure true := by exact sw_true rfl rfl rfl rfl) :
    Sj1 C (sSet i (eLc ms eff tYes me (own.map (·.2)))) (.Assign [.Name x pos'] (.ListComp elt [⟨tg, iter, [], 0⟩] scope pos) spos) := .mk fun sl S σ F R H hs hr D post =>
  SD1.of (ps_setLc hc hN hy hyl hw hi ok hg (fun _ _ _ _ _ => pts_nil) (fun s H Cc cl fp => pe_b s H Cc cl fp) hf) (lc_read hs hr hsrc ho hj ⟨fun G sl S σ F R H hs hr b S1 e Q k => by cases e; exact k F R H hr (Same.refl _) pre_refl, turn_e he⟩ (PostS.bind post hs fun d S1 v F1 R1 H1 _ rv rep1 s1 r1 hs1 post1 => post1 _ F1 R1 H1 (hs1.set rv) rep1 (Same.refl _) pre_refl))
theorem sj_setLc1 (i : Nat) (hc : C.X.calm = true) (hN : C.X.N.Nodup) (hi : PI C.X tg iter wi) (hsrc : SrcOk C wi ms) (ok : BlkOk C.X.N C.X.env.scope scope own) (hg : TgB C scope tg g) (ho : GOk C.K g eff js) (hj : ∀ j ∈ js, j ∈ own.map (·.2)) (htt : TjB C scope t c) (he : EjB C scope me elt)
    (hf : ∀ x, foldedSetIterable iter C.X.env x = pure x := by intro _; rfl) (hy : C.X.N[i]? = some x := by rfl) (hyl : C.X.env.scope.names.lookup x = some .local := by rfl)
    (hw : swapsWith (.ListComp elt [⟨tg, iter, [c], 0⟩] scope pos) (some (.Name x pos')) spos.line C.X.env = pure true := by exact sw_true rfl rfl rfl rfl) :
    Sj1 C (sSet i (eLc ms eff t me (own.map (·.2)))) (.Assign [.Name x pos'] (.ListComp elt [⟨tg, iter, [c], 0⟩] scope pos) spos) := .mk fun sl S σ F R H hs hr D post =>
  SD1.of (ps_setLc hc hN hy hyl hw hi ok hg (fun s H Cc cl fp => pts_one (pt_b s H Cc cl fp)) (fun s H Cc cl fp => pe_b s H Cc cl fp) hf) (lc_read hs hr hsrc ho hj ⟨turn_t htt, turn_e he⟩ (PostS.bind post hs fun d S1 v F1 R1 H1 _ rv rep1 s1 r1 hs1 post1 => post1 _ F1 R1 H1 (hs1.set rv) rep1 (Same.refl _) pre_refl))
theorem sj_setLcL0 (i : Nat) (hc : C.X.calm = true) (hN : C.X.N.Nodup) (hi : PI C.X tg iter wi) (hsrc : SrcOk C wi ms) (ok : BlkOk C.X.N C.X.env.scope scope own) (hg : TgB C scope tg g) (ho : GOk C.K g eff js) (hj : ∀ j ∈ js, j ∈ own.map (·.2)) (he : EjB C scope me elt)
    (hf : ∀ x, foldedSetIterable iter C.X.env x = pure x := by intro _; rfl) (hy : C.X.N[i]? = some x := by rfl) (hyl : C.X.env.scope.names.lookup x = some .local := by rfl)
    (hw : swapsWith (.ListComp elt [⟨tg, iter, [], 0⟩] scope pos) (some (.Name x pos')) spos.line C.X.env = pure true := by exact sw_true rfl rfl rfl rfl) :
    Sj1 C (sSet i (eLcL ms eff tYes me (own.map (·.2)))) (.Assign [.Name x pos'] (.ListComp elt [⟨tg, iter, [], 0⟩] scope pos) spos) := .mk fun sl S σ F R H hs hr D post =>
  SD1.of (ps_setLc hc hN hy hyl hw hi ok hg (fun _ _ _ _ _ => pts_nil) (fun s H Cc cl fp => pe_b s H Cc cl fp) hf) (lc_readL hs hr hsrc ho hj ⟨fun G sl S σ F R H hs hr b S1 e Q k => by cases e; exact k F R H hr (Same.refl _) pre_refl, turn_e he⟩ (PostS.bind post hs fun d S1 v F1 R1 H1 _ rv rep1 s1 r1 hs1 post1 => post1 _ F1 R1 H1 (hs1.set rv) rep1 (Same.refl _) pre_refl))
theorem sj_setLcL1 (i : Nat) (hc : C.X.calm = true) (hN : C.X.N.Nodup) (hi : PI C.X tg iter wi) (hsrc : SrcOk C wi ms) (ok : BlkOk C.X.N C.X.env.scope scope own) (hg : TgB C scope tg g) (ho : GOk C.K g eff js) (hj : ∀ j ∈ js, j ∈ own.map (·.2)) (htt : TjB C scope t c) (he : EjB C scope me elt)
    (hf : ∀ x, foldedSetIterable iter C.X.env x = pure x := by intro _; rfl) (hy : C.X.N[i]? = some x := by rfl) (hyl : C.X.env.scope.names.lookup x = some .local := by rfl)
    (hw : swapsWith (.ListComp elt [⟨tg, iter, [c], 0⟩] scope pos) (some (.Name x pos')) spos.line C.X.env = pure true := by exact sw_true rfl rfl rfl rfl) :
    Sj1 C (sSet i (eLcL ms eff t me (own.map (·.2)))) (.Assign [.Name x pos'] (.ListComp elt [⟨tg, iter, [c], 0⟩] scope pos) spos) := .mk fun sl S σ F R H hs hr D post =>
  SD1.of (ps_setLc hc hN hy hyl hw hi ok hg (fun s H Cc cl fp => pts_one (pt_b s H Cc cl fp)) (fun s H Cc cl fp => pe_b s H Cc cl fp) hf) (lc_readL hs hr hsrc ho hj ⟨turn_t htt, turn_e he⟩ (PostS.bind post hs fun d S1 v F1 R1 H1 _ rv rep1 s1 r1 hs1 post1 => post1 _ F1 R1 H1 (hs1.set rv) rep1 (Same.refl _) pre_refl))
end
end Z

namespace Kw
open PySem PySem.Spec PyProof.Rows L2 Z
def top (i : Nat) : Stmt := PySem.Challenge.pw_lastkind_k05_notes_there_and_back.main.body.getD i (.Pass ⟨0, 0, 0, 0⟩)
def clsB (s : Stmt) : List Stmt := match s with
  | .ClassDef _ _ _ b _ _ _ _ _ _ _ => b
  | _ => []
abbrev s_consists_of : Stmt := top 10
theorem sc_consists_of : FnScope ["word", "signs", "sign"] ["word", "signs"] (defScope s_consists_of) := ⟨rfl, rfl, rfl, by decide +kernel, rfl, by decide +kernel, by decide +kernel⟩
theorem bi_consists_of : BindsBy "consists_of" ["word", "signs"] s_consists_of := fun _ _ _ _ _ _ us hl => match us, hl with | [_, _], _ => rfl
abbrev s_is_name : Stmt := top 11
theorem sc_is_name : FnScope ["thing"] ["thing"] (defScope s_is_name) := ⟨rfl, rfl, rfl, by decide +kernel, rfl, by decide +kernel, by decide +kernel⟩
theorem bi_is_name : BindsBy "is_name" ["thing"] s_is_name := fun _ _ _ _ _ _ us hl => match us, hl with | [_], _ => rfl
abbrev s_check_pointers : Stmt := top 52
theorem sc_check_pointers : FnScope ["pointers", "known", "names", "index", "name"] ["pointers", "known"] (defScope s_check_pointers) := ⟨rfl, rfl, rfl, by decide +kernel, rfl, by decide +kernel, by decide +kernel⟩
theorem bi_check_pointers : BindsBy "check_pointers" ["pointers", "known"] s_check_pointers := fun _ _ _ _ _ _ us hl => match us, hl with | [_, _], _ => rfl
abbrev s_Text_eq : Stmt := (clsB (top 55)).getD 7 (.Pass ⟨0, 0, 0, 0⟩)
theorem sc_Text_eq : FnScope ["self", "other"] ["self", "other"] (defScope s_Text_eq) := ⟨rfl, rfl, rfl, by decide +kernel, rfl, by decide +kernel, by decide +kernel⟩
theorem bi_Text_eq : BindsByN "__eq__" "Text.__eq__" ["self", "other"] s_Text_eq := fun _ _ _ _ _ _ us hl => match us, hl with | [_, _], _ => rfl
abbrev s_value_made : Stmt := top 31
theorem sc_value_made : FnScope ["step"] ["step"] (defScope s_value_made) := ⟨rfl, rfl, rfl, by decide +kernel, rfl, by decide +kernel, by decide +kernel⟩
theorem bi_value_made : BindsBy "value_made" ["step"] s_value_made := fun _ _ _ _ _ _ us hl => match us, hl with | [_], _ => rfl
abbrev s_value_used : Stmt := top 30
theorem sc_value_used : FnScope ["step"] ["step"] (defScope s_value_used) := ⟨rfl, rfl, rfl, by decide +kernel, rfl, by decide +kernel, by decide +kernel⟩
theorem bi_value_used : BindsBy "value_used" ["step"] s_value_used := fun _ _ _ _ _ _ us hl => match us, hl with | [_], _ => rfl
abbrev s_is_kind : Stmt := top 12
theorem sc_is_kind : FnScope ["thing"] ["thing"] (defScope s_is_kind) := ⟨rfl, rfl, rfl, by decide +kernel, rfl, by decide +kernel, by decide +kernel⟩
theorem bi_is_kind : BindsBy "is_kind" ["thing"] s_is_kind := fun _ _ _ _ _ _ us hl => match us, hl with | [_], _ => rfl
abbrev s_is_integer : Stmt := top 9
theorem sc_is_integer : FnScope ["thing"] ["thing"] (defScope s_is_integer) := ⟨rfl, rfl, rfl, by decide +kernel, rfl, by decide +kernel, by decide +kernel⟩
theorem bi_is_integer : BindsBy "is_integer" ["thing"] s_is_integer := fun _ _ _ _ _ _ us hl => match us, hl with | [_], _ => rfl
abbrev s_is_offset : Stmt := top 20
theorem sc_is_offset : FnScope ["thing"] ["thing"] (defScope s_is_offset) := ⟨rfl, rfl, rfl, by decide +kernel, rfl, by decide +kernel, by decide +kernel⟩
theorem bi_is_offset : BindsBy "is_offset" ["thing"] s_is_offset := fun _ _ _ _ _ _ us hl => match us, hl with | [_], _ => rfl
abbrev s_is_number : Stmt := top 14
theorem sc_is_number : FnScope ["thing"] ["thing"] (defScope s_is_number) := ⟨rfl, rfl, rfl, by decide +kernel, rfl, by decide +kernel, by decide +kernel⟩
theorem bi_is_number : BindsBy "is_number" ["thing"] s_is_number := fun _ _ _ _ _ _ us hl => match us, hl with | [_], _ => rfl
abbrev s_is_value : Stmt := top 22
theorem sc_is_value : FnScope ["thing"] ["thing"] (defScope s_is_value) := ⟨rfl, rfl, rfl, by decide +kernel, rfl, by decide +kernel, by decide +kernel⟩
theorem bi_is_value : BindsBy "is_value" ["thing"] s_is_value := fun _ _ _ _ _ _ us hl => match us, hl with | [_], _ => rfl
abbrev s_is_many : Stmt := top 21
theorem sc_is_many : FnScope ["thing"] ["thing"] (defScope s_is_many) := ⟨rfl, rfl, rfl, by decide +kernel, rfl, by decide +kernel, by decide +kernel⟩
theorem bi_is_many : BindsBy "is_many" ["thing"] s_is_many := fun _ _ _ _ _ _ us hl => match us, hl with | [_], _ => rfl
abbrev s_is_step : Stmt := top 24
theorem sc_is_step : FnScope ["thing", "checks", "check", "part"] ["thing"] (defScope s_is_step) := ⟨rfl, rfl, rfl, by decide +kernel, rfl, by decide +kernel, by decide +kernel⟩
theorem bi_is_step : BindsBy "is_step" ["thing"] s_is_step := fun _ _ _ _ _ _ us hl => match us, hl with | [_], _ => rfl
abbrev s_size_of : Stmt := top 13
theorem sc_size_of : FnScope ["kind"] ["kind"] (defScope s_size_of) := ⟨rfl, rfl, rfl, by decide +kernel, rfl, by decide +kernel, by decide +kernel⟩
theorem bi_size_of : BindsBy "size_of" ["kind"] s_size_of := fun _ _ _ _ _ _ us hl => match us, hl with | [_], _ => rfl
abbrev s_reads_at : Stmt := top 25
theorem sc_reads_at : FnScope ["step"] ["step"] (defScope s_reads_at) := ⟨rfl, rfl, rfl, by decide +kernel, rfl, by decide +kernel, by decide +kernel⟩
theorem bi_reads_at : BindsBy "reads_at" ["step"] s_reads_at := fun _ _ _ _ _ _ us hl => match us, hl with | [_], _ => rfl
abbrev s_writes_at : Stmt := top 26
theorem sc_writes_at : FnScope ["step"] ["step"] (defScope s_writes_at) := ⟨rfl, rfl, rfl, by decide +kernel, rfl, by decide +kernel, by decide +kernel⟩
theorem bi_writes_at : BindsBy "writes_at" ["step"] s_writes_at := fun _ _ _ _ _ _ us hl => match us, hl with | [_], _ => rfl
abbrev s_stretches : Stmt := top 27
theorem sc_stretches : FnScope ["step", "one"] ["step"] (defScope s_stretches) := ⟨rfl, rfl, rfl, by decide +kernel, rfl, by decide +kernel, by decide +kernel⟩
theorem bi_stretches : BindsBy "stretches" ["step"] s_stretches := fun _ _ _ _ _ _ us hl => match us, hl with | [_], _ => rfl
abbrev s_fits_window : Stmt := top 28
theorem sc_fits_window : FnScope ["step", "name", "offset", "many"] ["step"] (defScope s_fits_window) := ⟨rfl, rfl, rfl, by decide +kernel, rfl, by decide +kernel, by decide +kernel⟩
theorem bi_fits_window : BindsBy "fits_window" ["step"] s_fits_window := fun _ _ _ _ _ _ us hl => match us, hl with | [_], _ => rfl
abbrev s_names_used : Stmt := top 29
theorem sc_names_used : FnScope ["step", "name", "offset", "many"] ["step"] (defScope s_names_used) := ⟨rfl, rfl, rfl, by decide +kernel, rfl, by decide +kernel, by decide +kernel⟩
theorem bi_names_used : BindsBy "names_used" ["step"] s_names_used := fun _ _ _ _ _ _ us hl => match us, hl with | [_], _ => rfl
abbrev s_step_fits : Stmt := top 53
theorem sc_step_fits : FnScope ["step", "names", "values", "made", "used", "name"] ["step", "names", "values"] (defScope s_step_fits) := ⟨rfl, rfl, rfl, by decide +kernel, rfl, by decide +kernel, by decide +kernel⟩
theorem bi_step_fits : BindsBy "step_fits" ["step", "names", "values"] s_step_fits := fun _ _ _ _ _ _ us hl => match us, hl with | [_, _, _], _ => rfl
abbrev s_check_steps : Stmt := top 54
theorem sc_check_steps : FnScope ["steps", "names", "values", "index", "step"] ["steps", "names"] (defScope s_check_steps) := ⟨rfl, rfl, rfl, by decide +kernel, rfl, by decide +kernel, by decide +kernel⟩
theorem bi_check_steps : BindsBy "check_steps" ["steps", "names"] s_check_steps := fun _ _ _ _ _ _ us hl => match us, hl with | [_, _], _ => rfl
abbrev s_check_places : Stmt := top 51
theorem sc_check_places : FnScope ["places", "known", "index", "place"] ["places"] (defScope s_check_places) := ⟨rfl, rfl, rfl, by decide +kernel, rfl, by decide +kernel, by decide +kernel⟩
theorem bi_check_places : BindsBy "check_places" ["places"] s_check_places := fun _ _ _ _ _ _ us hl => match us, hl with | [_], _ => rfl
abbrev s_Text_init : Stmt := (clsB (top 55)).getD 0 (.Pass ⟨0, 0, 0, 0⟩)
theorem sc_Text_init : FnScope ["self", "places", "pointers", "steps", "names"] ["self", "places", "pointers", "steps"] (defScope s_Text_init) := ⟨rfl, rfl, rfl, by decide +kernel, rfl, by decide +kernel, by decide +kernel⟩
theorem bi_Text_init1 : BindsByD "__init__" "Text.__init__" ["self", "places", "pointers", "steps"] s_Text_init 1 3 0 := fun T _ _ _ _ _ _ us its hl hm => match us, its, hl, hm with | [_], [_, _, _], _, _ => ⟨_, rfl, rfl⟩
theorem bi_Text_init2 : BindsByD "__init__" "Text.__init__" ["self", "places", "pointers", "steps"] s_Text_init 2 3 1 := fun T _ _ _ _ _ _ us its hl hm => match us, its, hl, hm with | [_, _], [_, _, _], _, _ => ⟨_, rfl, rfl⟩
theorem bi_Text_init3 : BindsByD "__init__" "Text.__init__" ["self", "places", "pointers", "steps"] s_Text_init 3 3 2 := fun T _ _ _ _ _ _ us its hl hm => match us, its, hl, hm with | [_, _, _], [_, _, _], _, _ => ⟨_, rfl, rfl⟩
theorem bi_Text_init4 : BindsByD "__init__" "Text.__init__" ["self", "places", "pointers", "steps"] s_Text_init 4 3 3 := fun T _ _ _ _ _ _ us its hl hm => match us, its, hl, hm with | [_, _, _, _], [_, _, _], _, _ => ⟨_, rfl, rfl⟩
abbrev s_bag : Stmt := top 60
theorem sc_bag : FnScope ["_law_script", "_law_at", "_law_cell", "_law_great", "_law_mixed", "_law_one"] ["_law_script", "_law_at"] (defScope s_bag) := ⟨rfl, rfl, rfl, by decide +kernel, rfl, by decide +kernel, by decide +kernel⟩
theorem bi_bag : BindsBy "_law_bag" ["_law_script", "_law_at"] s_bag := fun _ _ _ _ _ _ us hl => match us, hl with | [_, _], _ => rfl
abbrev s_take : Stmt := top 61
theorem sc_take : FnScope ["_law_bag_here", "_law_many", "_law_digit"] ["_law_bag_here", "_law_many"] (defScope s_take) := ⟨rfl, rfl, rfl, by decide +kernel, rfl, by decide +kernel, by decide +kernel⟩
theorem bi_take : BindsBy "_law_take" ["_law_bag_here", "_law_many"] s_take := fun _ _ _ _ _ _ us hl => match us, hl with | [_, _], _ => rfl
abbrev s_names : Stmt := top 62
theorem sc_names : FnScope ["_law_bag_here", "_law_many", "_law_stem", "_law_at", "_law_begin", "_law_found", "_law_k", "_law_sign"] ["_law_bag_here", "_law_many"] (defScope s_names) := ⟨rfl, rfl, rfl, by decide +kernel, rfl, by decide +kernel, by decide +kernel⟩
theorem bi_names : BindsBy "_law_names" ["_law_bag_here", "_law_many"] s_names := fun _ _ _ _ _ _ us hl => match us, hl with | [_, _], _ => rfl
abbrev s_kinds : Stmt := top 63
theorem sc_kinds : FnScope ["_law_bag_here", "_law_many", "_law_letters", "_law_some", "_law_k"] ["_law_bag_here", "_law_many"] (defScope s_kinds) := ⟨rfl, rfl, rfl, by decide +kernel, rfl, by decide +kernel, by decide +kernel⟩
theorem bi_kinds : BindsBy "_law_kinds" ["_law_bag_here", "_law_many"] s_kinds := fun _ _ _ _ _ _ us hl => match us, hl with | [_, _], _ => rfl
abbrev s_use : Stmt := top 64
theorem sc_use : FnScope ["_law_bag_here", "_law_names_here", "_law_habits", "_law_kinds_here", "_law_name", "_law_room", "_law_kind", "_law_offset"] ["_law_bag_here", "_law_names_here", "_law_habits", "_law_kinds_here"] (defScope s_use) := ⟨rfl, rfl, rfl, by decide +kernel, rfl, by decide +kernel, by decide +kernel⟩
theorem bi_use : BindsBy "_law_use" ["_law_bag_here", "_law_names_here", "_law_habits", "_law_kinds_here"] s_use := fun _ _ _ _ _ _ us hl => match us, hl with | [_, _, _, _], _ => rfl
abbrev s_step : Stmt := top 65
theorem sc_step : FnScope ["_law_bag_here", "_law_names_here", "_law_habits", "_law_kinds_here", "_law_values", "_law_fresh", "_law_way", "_law_room", "_law_kind", "_law_name", "_law_offset", "_law_value", "_law_other", "_law_source", "_law_begin", "_law_many"] ["_law_bag_here", "_law_names_here", "_law_habits", "_law_kinds_here", "_law_values", "_law_fresh"] (defScope s_step) := ⟨rfl, rfl, rfl, by decide +kernel, rfl, by decide +kernel, by decide +kernel⟩
theorem bi_step : BindsBy "_law_step" ["_law_bag_here", "_law_names_here", "_law_habits", "_law_kinds_here", "_law_values", "_law_fresh"] s_step := fun _ _ _ _ _ _ us hl => match us, hl with | [_, _, _, _, _, _], _ => rfl
abbrev s_drawn : Stmt := top 66
theorem sc_drawn : FnScope ["_law_bag_here", "_law_most", "_law_room", "_law_placed", "_law_many", "_law_names_here", "_law_kinds_here", "_law_habits", "_law_steps", "_law_values", "_law_places", "_law_k", "_law_name", "_law_fresh", "_law_step_here"] ["_law_bag_here", "_law_most", "_law_room"] (defScope s_drawn) := ⟨rfl, rfl, rfl, by decide +kernel, rfl, by decide +kernel, by decide +kernel⟩
theorem bi_drawn2 : BindsByD "_law_drawn" "_law_drawn" ["_law_bag_here", "_law_most", "_law_room"] s_drawn 2 1 0 := fun T _ _ _ _ _ _ us its hl hm => match us, its, hl, hm with | [_, _], [_], _, _ => ⟨_, rfl, rfl⟩
theorem bi_drawn3 : BindsByD "_law_drawn" "_law_drawn" ["_law_bag_here", "_law_most", "_law_room"] s_drawn 3 1 1 := fun T _ _ _ _ _ _ us its hl hm => match us, its, hl, hm with | [_, _, _], [_], _, _ => ⟨_, rfl, rfl⟩
abbrev s_line : Stmt := top 67
theorem sc_line : FnScope ["_law_step_here", "_law_target"] ["_law_step_here"] (defScope s_line) := ⟨rfl, rfl, rfl, by decide +kernel, rfl, by decide +kernel, by decide +kernel⟩
theorem bi_line : BindsBy "_law_line" ["_law_step_here"] s_line := fun _ _ _ _ _ _ us hl => match us, hl with | [_], _ => rfl
abbrev s_note : Stmt := top 68
theorem sc_note : FnScope ["_law_places", "_law_pointers", "_law_steps", "_law_lines", "_law_name", "_law_kind", "_law_step_here"] ["_law_places", "_law_pointers", "_law_steps"] (defScope s_note) := ⟨rfl, rfl, rfl, by decide +kernel, rfl, by decide +kernel, by decide +kernel⟩
theorem bi_note : BindsBy "_law_note" ["_law_places", "_law_pointers", "_law_steps"] s_note := fun _ _ _ _ _ _ us hl => match us, hl with | [_, _, _], _ => rfl
abbrev s_spot_word : Stmt := top 33
theorem sc_spot_word : FnScope ["name", "offset"] ["name", "offset"] (defScope s_spot_word) := ⟨rfl, rfl, rfl, by decide +kernel, rfl, by decide +kernel, by decide +kernel⟩
theorem bi_spot_word : BindsBy "spot_word" ["name", "offset"] s_spot_word := fun _ _ _ _ _ _ us hl => match us, hl with | [_, _], _ => rfl
abbrev s_step_line : Stmt := top 34
theorem sc_step_line : FnScope ["step", "word"] ["step"] (defScope s_step_line) := ⟨rfl, rfl, rfl, by decide +kernel, rfl, by decide +kernel, by decide +kernel⟩
theorem bi_step_line : BindsBy "step_line" ["step"] s_step_line := fun _ _ _ _ _ _ us hl => match us, hl with | [_], _ => rfl
abbrev s_lines_of : Stmt := top 35
theorem sc_lines_of : FnScope ["places", "pointers", "steps", "found", "name", "kind", "step"] ["places", "pointers", "steps"] (defScope s_lines_of) := ⟨rfl, rfl, rfl, by decide +kernel, rfl, by decide +kernel, by decide +kernel⟩
theorem bi_lines_of : BindsBy "lines_of" ["places", "pointers", "steps"] s_lines_of := fun _ _ _ _ _ _ us hl => match us, hl with | [_, _, _], _ => rfl
abbrev s_write_text : Stmt := top 57
theorem sc_write_text : FnScope ["text"] ["text"] (defScope s_write_text) := ⟨rfl, rfl, rfl, by decide +kernel, rfl, by decide +kernel, by decide +kernel⟩
theorem bi_write_text : BindsBy "write_text" ["text"] s_write_text := fun _ _ _ _ _ _ us hl => match us, hl with | [_], _ => rfl
abbrev s_number_in : Stmt := top 15
theorem sc_number_in : FnScope ["word", "plain"] ["word"] (defScope s_number_in) := ⟨rfl, rfl, rfl, by decide +kernel, rfl, by decide +kernel, by decide +kernel⟩
theorem bi_number_in : BindsBy "number_in" ["word"] s_number_in := fun _ _ _ _ _ _ us hl => match us, hl with | [_], _ => rfl
abbrev s_count_in : Stmt := top 16
theorem sc_count_in : FnScope ["word"] ["word"] (defScope s_count_in) := ⟨rfl, rfl, rfl, by decide +kernel, rfl, by decide +kernel, by decide +kernel⟩
theorem bi_count_in : BindsBy "count_in" ["word"] s_count_in := fun _ _ _ _ _ _ us hl => match us, hl with | [_], _ => rfl
abbrev s_spot_in : Stmt := top 36
theorem sc_spot_in : FnScope ["word", "name", "sign", "rest", "offset"] ["word"] (defScope s_spot_in) := ⟨rfl, rfl, rfl, by decide +kernel, rfl, by decide +kernel, by decide +kernel⟩
theorem bi_spot_in : BindsBy "spot_in" ["word"] s_spot_in := fun _ _ _ _ _ _ us hl => match us, hl with | [_], _ => rfl
abbrev s_checked : Stmt := top 38
theorem sc_checked : FnScope ["step"] ["step"] (defScope s_checked) := ⟨rfl, rfl, rfl, by decide +kernel, rfl, by decide +kernel, by decide +kernel⟩
theorem bi_checked : BindsBy "checked" ["step"] s_checked := fun _ _ _ _ _ _ us hl => match us, hl with | [_], _ => rfl
abbrev s_value_in : Stmt := top 37
theorem sc_value_in : FnScope ["word", "number"] ["word"] (defScope s_value_in) := ⟨rfl, rfl, rfl, by decide +kernel, rfl, by decide +kernel, by decide +kernel⟩
theorem bi_value_in : BindsBy "value_in" ["word"] s_value_in := fun _ _ _ _ _ _ us hl => match us, hl with | [_], _ => rfl
abbrev s_step_in : Stmt := top 39
theorem sc_step_in : FnScope ["words", "x", "kind", "target", "name", "offset", "value", "many", "source", "other", "begin"] ["words"] (defScope s_step_in) := ⟨rfl, rfl, rfl, by decide +kernel, rfl, by decide +kernel, by decide +kernel⟩
theorem bi_step_in : BindsBy "step_in" ["words"] s_step_in := fun _ _ _ _ _ _ us hl => match us, hl with | [_], _ => rfl
abbrev s_entry_in : Stmt := top 40
theorem sc_entry_in : FnScope ["line", "words", "step"] ["line"] (defScope s_entry_in) := ⟨rfl, rfl, rfl, by decide +kernel, rfl, by decide +kernel, by decide +kernel⟩
theorem bi_entry_in : BindsBy "entry_in" ["line"] s_entry_in := fun _ _ _ _ _ _ us hl => match us, hl with | [_], _ => rfl
abbrev s_Text_read : Stmt := (clsB (top 55)).getD 1 (.Pass ⟨0, 0, 0, 0⟩)
theorem sc_Text_read : FnScope ["cls", "note", "parts", "phase", "lines", "text", "index", "line", "entry", "e"] ["cls", "note"] (defScope s_Text_read) := ⟨rfl, rfl, rfl, by decide +kernel, rfl, by decide +kernel, by decide +kernel⟩
theorem bi_Text_read : BindsByN "read" "Text.read" ["cls", "note"] s_Text_read := fun _ _ _ _ _ _ us hl => match us, hl with | [_, _], _ => rfl
abbrev s_read_text : Stmt := top 58
theorem sc_read_text : FnScope ["note"] ["note"] (defScope s_read_text) := ⟨rfl, rfl, rfl, by decide +kernel, rfl, by decide +kernel, by decide +kernel⟩
theorem bi_read_text : BindsBy "read_text" ["note"] s_read_text := fun _ _ _ _ _ _ us hl => match us, hl with | [_], _ => rfl
abbrev s_law : Stmt := top 69
theorem sc_law : FnScope ["_law_script", "_law_k", "_law_bag_here", "_law_turn", "_law_places", "_law_pointers", "_law_steps", "_law_text", "_law_note_here", "_law_told", "_law_two", "_law_one"] ["_law_script"] (defScope s_law) := ⟨rfl, rfl, rfl, by decide +kernel, rfl, by decide +kernel, by decide +kernel⟩
theorem bi_law : BindsBy "law" ["_law_script"] s_law := fun _ _ _ _ _ _ us hl => match us, hl with | [_], _ => rfl
def isT : IsT := [(.ty "NoneType", "Text", false), (.ty "bool", "Text", false), (.ty "int", "Text", false), (.ty "str", "Text", false), (.ty "list", "Text", false), (.ty "tuple", "Text", false), (.glo "Text", "Text", true)]
def isC : List Str := ["Text"]
def t_PARTS : Tabl := [("read", .tup ["is_name", "is_kind", "is_name", "is_offset"]), ("write", .tup ["is_kind", "is_name", "is_offset", "is_value"]), ("copy", .tup ["is_many", "is_name", "is_offset", "is_name", "is_offset"]), ("blank", .tup ["is_many", "is_name", "is_offset"]), ("tell", .tup ["is_name"])]
structure Tx (w : World) (K : PySem.W.Frag) (mg : Str → Option Value) : Prop where
  f_consists_of : DefAt K mg "consists_of" s_consists_of
  g_consists_of : mg "consists_of" = some (.ref (He.ga K "consists_of"))
  f_is_name : DefAt K mg "is_name" s_is_name
  g_is_name : mg "is_name" = some (.ref (He.ga K "is_name"))
  f_check_pointers : DefAt K mg "check_pointers" s_check_pointers
  g_check_pointers : mg "check_pointers" = some (.ref (He.ga K "check_pointers"))
  f_Text_eq : ∃ fd, FunD K "__eq__" "Text.__eq__" (defArgs s_Text_eq) (defBody s_Text_eq) (defScope s_Text_eq) [] [] (He.ma K (He.ga K "Text") "__eq__") fd
  f_value_made : DefAt K mg "value_made" s_value_made
  g_value_made : mg "value_made" = some (.ref (He.ga K "value_made"))
  f_value_used : DefAt K mg "value_used" s_value_used
  g_value_used : mg "value_used" = some (.ref (He.ga K "value_used"))
  f_is_kind : DefAt K mg "is_kind" s_is_kind
  g_is_kind : mg "is_kind" = some (.ref (He.ga K "is_kind"))
  f_is_integer : DefAt K mg "is_integer" s_is_integer
  g_is_integer : mg "is_integer" = some (.ref (He.ga K "is_integer"))
  f_is_offset : DefAt K mg "is_offset" s_is_offset
  g_is_offset : mg "is_offset" = some (.ref (He.ga K "is_offset"))
  f_is_number : DefAt K mg "is_number" s_is_number
  g_is_number : mg "is_number" = some (.ref (He.ga K "is_number"))
  f_is_value : DefAt K mg "is_value" s_is_value
  g_is_value : mg "is_value" = some (.ref (He.ga K "is_value"))
  f_is_many : DefAt K mg "is_many" s_is_many
  g_is_many : mg "is_many" = some (.ref (He.ga K "is_many"))
  f_is_step : DefAt K mg "is_step" s_is_step
  g_is_step : mg "is_step" = some (.ref (He.ga K "is_step"))
  f_size_of : DefAt K mg "size_of" s_size_of
  g_size_of : mg "size_of" = some (.ref (He.ga K "size_of"))
  f_reads_at : DefAt K mg "reads_at" s_reads_at
  g_reads_at : mg "reads_at" = some (.ref (He.ga K "reads_at"))
  f_writes_at : DefAt K mg "writes_at" s_writes_at
  g_writes_at : mg "writes_at" = some (.ref (He.ga K "writes_at"))
  f_stretches : DefAt K mg "stretches" s_stretches
  g_stretches : mg "stretches" = some (.ref (He.ga K "stretches"))
  f_fits_window : DefAt K mg "fits_window" s_fits_window
  g_fits_window : mg "fits_window" = some (.ref (He.ga K "fits_window"))
  f_names_used : DefAt K mg "names_used" s_names_used
  g_names_used : mg "names_used" = some (.ref (He.ga K "names_used"))
  f_step_fits : DefAt K mg "step_fits" s_step_fits
  g_step_fits : mg "step_fits" = some (.ref (He.ga K "step_fits"))
  f_check_steps : DefAt K mg "check_steps" s_check_steps
  g_check_steps : mg "check_steps" = some (.ref (He.ga K "check_steps"))
  f_check_places : DefAt K mg "check_places" s_check_places
  g_check_places : mg "check_places" = some (.ref (He.ga K "check_places"))
  f_Text_init : ∃ fd, FunD K "__init__" "Text.__init__" (defArgs s_Text_init) (defBody s_Text_init) (defScope s_Text_init) [.ref (He.dflAt ("Text", some "__init__") 0 K), .ref (He.dflAt ("Text", some "__init__") 1 K), .ref (He.dflAt ("Text", some "__init__") 2 K)] [] (He.ma K (He.ga K "Text") "__init__") fd
  n_Text_init_0 : nilB K (He.dflAt ("Text", some "__init__") 0 K) = true
  n_Text_init_1 : nilB K (He.dflAt ("Text", some "__init__") 1 K) = true
  n_Text_init_2 : nilB K (He.dflAt ("Text", some "__init__") 2 K) = true
  f_bag : DefAt K mg "_law_bag" s_bag
  g_bag : mg "_law_bag" = some (.ref (He.ga K "_law_bag"))
  f_take : DefAt K mg "_law_take" s_take
  g_take : mg "_law_take" = some (.ref (He.ga K "_law_take"))
  f_names : DefAt K mg "_law_names" s_names
  g_names : mg "_law_names" = some (.ref (He.ga K "_law_names"))
  f_kinds : DefAt K mg "_law_kinds" s_kinds
  g_kinds : mg "_law_kinds" = some (.ref (He.ga K "_law_kinds"))
  f_use : DefAt K mg "_law_use" s_use
  g_use : mg "_law_use" = some (.ref (He.ga K "_law_use"))
  f_step : DefAt K mg "_law_step" s_step
  g_step : mg "_law_step" = some (.ref (He.ga K "_law_step"))
  f_drawn : ∃ fd, FunD K "_law_drawn" "_law_drawn" (defArgs s_drawn) (defBody s_drawn) (defScope s_drawn) [.int 4] [] (He.ga K "_law_drawn") fd
  g_drawn : mg "_law_drawn" = some (.ref (He.ga K "_law_drawn"))
  f_line : DefAt K mg "_law_line" s_line
  g_line : mg "_law_line" = some (.ref (He.ga K "_law_line"))
  f_note : DefAt K mg "_law_note" s_note
  g_note : mg "_law_note" = some (.ref (He.ga K "_law_note"))
  f_spot_word : DefAt K mg "spot_word" s_spot_word
  g_spot_word : mg "spot_word" = some (.ref (He.ga K "spot_word"))
  f_step_line : DefAt K mg "step_line" s_step_line
  g_step_line : mg "step_line" = some (.ref (He.ga K "step_line"))
  f_lines_of : DefAt K mg "lines_of" s_lines_of
  g_lines_of : mg "lines_of" = some (.ref (He.ga K "lines_of"))
  f_write_text : DefAt K mg "write_text" s_write_text
  g_write_text : mg "write_text" = some (.ref (He.ga K "write_text"))
  f_number_in : DefAt K mg "number_in" s_number_in
  g_number_in : mg "number_in" = some (.ref (He.ga K "number_in"))
  f_count_in : DefAt K mg "count_in" s_count_in
  g_count_in : mg "count_in" = some (.ref (He.ga K "count_in"))
  f_spot_in : DefAt K mg "spot_in" s_spot_in
  g_spot_in : mg "spot_in" = some (.ref (He.ga K "spot_in"))
  f_checked : DefAt K mg "checked" s_checked
  g_checked : mg "checked" = some (.ref (He.ga K "checked"))
  f_value_in : DefAt K mg "value_in" s_value_in
  g_value_in : mg "value_in" = some (.ref (He.ga K "value_in"))
  f_step_in : DefAt K mg "step_in" s_step_in
  g_step_in : mg "step_in" = some (.ref (He.ga K "step_in"))
  f_entry_in : DefAt K mg "entry_in" s_entry_in
  g_entry_in : mg "entry_in" = some (.ref (He.ga K "entry_in"))
  f_Text_read : ∃ fd, FunD K "read" "Text.read" (defArgs s_Text_read) (defBody s_Text_read) (defScope s_Text_read) [] [] (He5.wf K (He.ga K "Text") "classmethod" "read") fd
  f_read_text : DefAt K mg "read_text" s_read_text
  g_read_text : mg "read_text" = some (.ref (He.ga K "read_text"))
  f_law : DefAt K mg "law" s_law
  g_law : mg "law" = some (.ref (He.ga K "law"))
  c_LOWER : ∃ t, mg "LOWER" = some (.str "abcdefghijklmnopqrstuvwxyz" t)
  c_NAME_SIGNS : ∃ t, mg "NAME_SIGNS" = some (.str "abcdefghijklmnopqrstuvwxyz0123456789" t)
  c_MOST_SIGNS : ∃ t, mg "MOST_SIGNS" = some (.int 8 t)
  c_MOST_POINTERS : ∃ t, mg "MOST_POINTERS" = some (.int 3 t)
  c_MOST_NAMES : ∃ t, mg "MOST_NAMES" = some (.int 4 t)
  c_FIGURES : ∃ t, mg "FIGURES" = some (.str "0123456789" t)
  c_MOST_SIZE : ∃ t, mg "MOST_SIZE" = some (.int 4 t)
  c_MOST_LETTERS : ∃ t, mg "MOST_LETTERS" = some (.int 6 t)
  c_WINDOW : ∃ t, mg "WINDOW" = some (.int 8 t)
  c_MOST_BYTES : ∃ t, mg "MOST_BYTES" = some (.int 8 t)
  c_MOST_STEPS : ∃ t, mg "MOST_STEPS" = some (.int 12 t)
  c_MOST_PLACES : ∃ t, mg "MOST_PLACES" = some (.int 2 t)
  c_MOST_FIGURES : ∃ t, mg "MOST_FIGURES" = some (.int 40 t)
  g_Text : mg "Text" = some (.ref (He.ga K "Text"))
  c_Text : Cls K (He.ga K "Text")
  na_Text_places : NoAttr K (He.ga K "Text") "places"
  na_Text_pointers : NoAttr K (He.ga K "Text") "pointers"
  na_Text_steps : NoAttr K (He.ga K "Text") "steps"
  mk_Text : L2.Mk K (He.ga K "Text") (He.ma K (He.ga K "Text") "__init__")
  eq_Text : EqC K (He.ga K "Text") (He.ma K (He.ga K "Text") "__eq__")
  rd_Text : ClX.CRead K (He.ga K "Text") (.type "type")
  cm_Text_read : ClX.CMet K (He.ga K "Text") (.type "type") "read" (He.ma K (He.ga K "Text") "read") (He5.wf K (He.ga K "Text") "classmethod" "read")
  is_ : IsOk K isT isC
  t_PARTS : TabOk w K mg "PARTS" t_PARTS
  b_all : mg "all" = none
  b_isinstance : mg "isinstance" = none
  b_str : mg "str" = none
  b_len : mg "len" = none
  b_list : mg "list" = none
  b_enumerate : mg "enumerate" = none
  b_tuple : mg "tuple" = none
  b_min : mg "min" = none
  b_int : mg "int" = none
  b_bool : mg "bool" = none
  b_abs : mg "abs" = none
  b_zip : mg "zip" = none
  b_any : mg "any" = none
  b_range : mg "range" = none
  b_max : mg "max" = none
end Kw

namespace Kw
open PySem PySem.Spec PyProof.Rows L2 Z
section
variable {P : Program} {w : World} {K : PySem.W.Frag} {mg : Str → Option Value} {base : Heap}
def b_consists_of : MS := sSeq (sRet (eF allP (aC (eLc (iSeq (eV 0)) (effN 2) tYes (eIn false (eV 2) (eV 1)) [2]) (aN)))) (sNil)
def f_consists_of : Fn := runB 3 b_consists_of
theorem ok_consists_of (T : Tx w K mg) : OkF P w K mg base 1 "consists_of" ["word", "signs"] f_consists_of :=
  (ok_fn (k := 0) (N := ["word", "signs", "sign"]) T.f_consists_of sc_consists_of bi_consists_of fun cdv A outer s H E G hr => sj_cons (sj_ret (ej_all rfl T.b_all (aj_cons (ej_lc0 (own := [("sign", 2)]) (g := gName 2) rfl sc_consists_of.nd (pi_seq pe_d) (src_seq (ej_v 0)) (blkOk_by (own := [("sign", 2)]) (N := ["word", "signs", "sign"]) (sc := defScope s_consists_of) (by decide +kernel)) (fun _ _ _ _ _ => pg_name (i := 2) sc_consists_of.nd rfl (by first | exact Or.inl rfl | exact Or.inr rfl)) (go_name) (by decide) (fun B hB => by obtain ⟨s', H', Cc, cl, fp, hB⟩ := hB; obtain ⟨BX, W', tk', G'⟩ := B; cases hB; exact ej_inG hr.u65 (ej_v 2) (ej_v 1))) (aj_nil)))) (sj_nil))
def b_is_name : MS := sSeq (sIf (tOr (tN (tV (eF isiP (aC (eV 0) (aC (eK (.ty "str")) (aN)))))) (tN (tCh (fun i j => decide (i ≤ j)) (fun i j => decide (i ≤ j)) (eK (.int 1)) (eF lenP (aC (eV 0) (aN))) (eK (.int 8))))) (sSeq (sRet (eK (.bl false))) (sNil)) (sNil)) (sSeq (sRet (eAnd (eIn false (eIx (eV 0) (eK (.int 0))) (eK (.str "abcdefghijklmnopqrstuvwxyz"))) (eCall 2 f_consists_of (aC (eV 0) (aC (eK (.str "abcdefghijklmnopqrstuvwxyz0123456789")) (aN)))))) (sNil))
def f_is_name : Fn := runB 1 b_is_name
theorem ok_is_name (T : Tx w K mg) : OkF P w K mg base 2 "is_name" ["thing"] f_is_name :=
  (ok_fn (k := 1) (N := ["thing"]) T.f_is_name sc_is_name bi_is_name fun cdv A outer s H E G hr => sj_cons (sj_if (tj_w (wj_or (tj_not (tj_v (ej_isi T.b_isinstance (aj_cons (ej_v 0) (aj_cons (ej_ty T.b_str) (aj_nil)))))) (wj_or1 (tj_not (tj_lele (ej_int) (ej_len T.b_len (aj_cons (ej_v 0) (aj_nil))) (ej_gI T.c_MOST_SIGNS)))))) (sj_cons (sj_ret (ej_bl)) (sj_nil)) (sj_nil)) (sj_cons (sj_ret (ej_and (ej_inG hr.u65 (ej_ixG hr.u16 (ej_v 0) (ej_int)) (ej_gS T.c_LOWER)) (ej_one (ej_call (ok_consists_of T) (hr.mono (by decide)) (aj_cons (ej_v 0) (aj_cons (ej_gS T.c_NAME_SIGNS) (aj_nil))))))) (sj_nil)))
def b_check_pointers : MS := sSeq (sIf (tOr (tN (tV (eF isiP (aC (eV 0) (aC (eK (.ty "tuple")) (aN)))))) (tB opGt (eF lenP (aC (eV 0) (aN))) (eF minP (aC (eK (.int 3)) (aC (eB opSub (eK (.int 4)) (eF lenP (aC (eV 1) (aN)))) (aN)))))) (sSeq (sNo) (sNil)) (sNil)) (sSeq (sSet 2 (eListL (aC (eV 1) (aN)))) (sSeq (sFor (iEn (eV 0)) (effT 2 (effsC (effN 3) (effsC (effN 4) (effsN)))) (sSeq (sIf (tOr (tN (tV (eCall 1 f_is_name (aC (eV 4) (aN))))) (tIn false (eV 4) (eV 2))) (sSeq (sNo) (sNil)) (sNil)) (sSeq (sExpr (eLm fApp (eV 2) (aC (eV 4) aN))) (sNil)))) (sSeq (sRet (eV 2)) (sNil))))
def f_check_pointers : Fn := runZ 5 b_check_pointers
theorem ok_check_pointers (T : Tx w K mg) : OkF P w K mg base 3 "check_pointers" ["pointers", "known"] f_check_pointers :=
  ok_fz (ok_fn (k := 2) (N := ["pointers", "known", "names", "index", "name"]) T.f_check_pointers sc_check_pointers bi_check_pointers fun cdv A outer s H E G hr => sj_cons (sj_if (tj_w (wj_or (tj_not (tj_v (ej_isi T.b_isinstance (aj_cons (ej_v 0) (aj_cons (ej_ty T.b_tuple) (aj_nil)))))) (wj_or1 (tj_gt (ej_len T.b_len (aj_cons (ej_v 0) (aj_nil))) (ej_min rfl T.b_min (aj_cons (ej_gI T.c_MOST_POINTERS) (aj_cons (ej_sub (ej_gI T.c_MOST_NAMES) (ej_len T.b_len (aj_cons (ej_v 1) (aj_nil)))) (aj_nil)))))))) (sj_cons (sj_no) (sj_nil)) (sj_nil)) (sj_cons (sj_set 2 sc_check_pointers.nd (ej_listL T.b_list (aj_cons (ej_v 1) (aj_nil)))) (sj_cons (sj_for (g := (gTup _ 2 (gCons (gName 3) (gCons (gName 4) (gNil))))) (passes_of rfl) rfl (pi_enumA rfl T.b_enumerate pa_d) (src_enum (ej_v 0)) (pg_tup rfl (pgs_cons (pg_name (i := 3) sc_check_pointers.nd rfl (by first | exact Or.inl rfl | exact Or.inr rfl)) (pgs_cons (pg_name (i := 4) sc_check_pointers.nd rfl (by first | exact Or.inl rfl | exact Or.inr rfl)) (pgs_nil)))) (go_tup (gso_cons (go_name) (gso_cons (go_name) (gso_nil)))) (sj_cons (sj_if (tj_w (wj_or (tj_not (tj_v (ej_call (ok_is_name T) (hr.mono (by decide)) (aj_cons (ej_v 4) (aj_nil))))) (wj_or1 (tj_inG hr.u65 (ej_v 4) (ej_v 2))))) (sj_cons (sj_no) (sj_nil)) (sj_nil)) (sj_cons (sj_expr (ej_app (ej_v 2) (ej_v 4))) (sj_nil)))) (sj_cons (sj_ret (ej_v 2)) (sj_nil)))))
def b_Text_eq : MS := sSeq (sRet (eAnd (eF (isiO isT isC) (aC (eV 1) (aC (eK (.glo "Text")) (aN)))) (eAnd (eB opEq (eFld ["Text"] "places" (eV 0)) (eFld ["Text"] "places" (eV 1))) (eAnd (eB opEq (eFld ["Text"] "pointers" (eV 0)) (eFld ["Text"] "pointers" (eV 1))) (eB opEq (eFld ["Text"] "steps" (eV 0)) (eFld ["Text"] "steps" (eV 1))))))) (sNil)
def f_Text_eq : Fn := runB 2 b_Text_eq
theorem okA_Text_eq (T : Tx w K mg) : OkA P w K mg base 1 "__eq__" "Text.__eq__" (He.ma K (He.ga K "Text") "__eq__") s_Text_eq [] ["self", "other"] f_Text_eq :=
  (okA_fn (k := 0) (N := ["self", "other"]) T.f_Text_eq sc_Text_eq fun cdv A outer s H E G hr => sj_cons (sj_ret (ej_and (ej_isiO T.is_ T.b_isinstance (aj_cons (ej_v 1) (aj_cons (ej_gO T.g_Text) (aj_nil)))) (ej_and (ej_eq hr.units (ej_fld (List.forall_mem_cons.mpr ⟨⟨T.c_Text, T.na_Text_places⟩, (fun _ h => nomatch h)⟩) (ej_v 0)) (ej_fld (List.forall_mem_cons.mpr ⟨⟨T.c_Text, T.na_Text_places⟩, (fun _ h => nomatch h)⟩) (ej_v 1))) (ej_and (ej_eq hr.units (ej_fld (List.forall_mem_cons.mpr ⟨⟨T.c_Text, T.na_Text_pointers⟩, (fun _ h => nomatch h)⟩) (ej_v 0)) (ej_fld (List.forall_mem_cons.mpr ⟨⟨T.c_Text, T.na_Text_pointers⟩, (fun _ h => nomatch h)⟩) (ej_v 1))) (ej_one (ej_eq hr.units (ej_fld (List.forall_mem_cons.mpr ⟨⟨T.c_Text, T.na_Text_steps⟩, (fun _ h => nomatch h)⟩) (ej_v 0)) (ej_fld (List.forall_mem_cons.mpr ⟨⟨T.c_Text, T.na_Text_steps⟩, (fun _ h => nomatch h)⟩) (ej_v 1)))))))) (sj_nil))
theorem form_Text_eq2 (T : Tx w K mg) : Form P w K mg base 1 (He.ma K (He.ga K "Text") "__eq__") f_Text_eq 2 [] := (okA_Text_eq T).form bi_Text_eq rfl
def b_value_made : MS := sSeq (sRet (eIf (tB opEq (eIx (eV 0) (eK (.int 0))) (eK (.str "read"))) (eIx (eV 0) (eK (.int 1))) (eK .non))) (sNil)
def f_value_made : Fn := runB 1 b_value_made
theorem ok_value_made (T : Tx w K mg) : OkF P w K mg base 1 "value_made" ["step"] f_value_made :=
  (ok_fn (k := 0) (N := ["step"]) T.f_value_made sc_value_made bi_value_made fun cdv A outer s H E G hr => sj_cons (sj_ret (ej_if (tj_eq hr.units (ej_ixG hr.u16 (ej_v 0) (ej_int)) (ej_str)) (ej_ixG hr.u16 (ej_v 0) (ej_int)) (ej_non))) (sj_nil))
def b_value_used : MS := sSeq (sIf (tB opEq (eIx (eV 0) (eK (.int 0))) (eK (.str "tell"))) (sSeq (sRet (eIx (eV 0) (eK (.int 1)))) (sNil)) (sNil)) (sSeq (sIf (tAnd (tB opEq (eIx (eV 0) (eK (.int 0))) (eK (.str "write"))) (tV (eF isiP (aC (eIx (eV 0) (eK (.int 4))) (aC (eK (.ty "str")) (aN)))))) (sSeq (sRet (eIx (eV 0) (eK (.int 4)))) (sNil)) (sNil)) (sSeq (sRet (eK .non)) (sNil)))
def f_value_used : Fn := runB 1 b_value_used
theorem ok_value_used (T : Tx w K mg) : OkF P w K mg base 1 "value_used" ["step"] f_value_used :=
  (ok_fn (k := 0) (N := ["step"]) T.f_value_used sc_value_used bi_value_used fun cdv A outer s H E G hr => sj_cons (sj_if (tj_eq hr.units (ej_ixG hr.u16 (ej_v 0) (ej_int)) (ej_str)) (sj_cons (sj_ret (ej_ixG hr.u16 (ej_v 0) (ej_int))) (sj_nil)) (sj_nil)) (sj_cons (sj_if (tj_w (wj_and (tj_eq hr.units (ej_ixG hr.u16 (ej_v 0) (ej_int)) (ej_str)) (wj_and1 (tj_v (ej_isi T.b_isinstance (aj_cons (ej_ixG hr.u16 (ej_v 0) (ej_int)) (aj_cons (ej_ty T.b_str) (aj_nil)))))))) (sj_cons (sj_ret (ej_ixG hr.u16 (ej_v 0) (ej_int))) (sj_nil)) (sj_nil)) (sj_cons (sj_ret (ej_non)) (sj_nil))))
def b_is_kind : MS := sSeq (sIf (tOr (tN (tV (eF isiP (aC (eV 0) (aC (eK (.ty "str")) (aN)))))) (tN (tCh (fun i j => decide (i ≤ j)) (fun i j => decide (i ≤ j)) (eK (.int 2)) (eF lenP (aC (eV 0) (aN))) (eB opAdd (eK (.int 6)) (eK (.int 1)))))) (sSeq (sRet (eK (.bl false))) (sNil)) (sNil)) (sSeq (sRet (eAnd (eCall 2 f_consists_of (aC (eSl (eV 0) (oN) (oS (eU opNeg (eK (.int 1))))) (aC (eK (.str "abcdefghijklmnopqrstuvwxyz")) (aN)))) (eAnd (eIn false (eIx (eV 0) (eU opNeg (eK (.int 1)))) (eK (.str "0123456789"))) (eCh (fun i j => decide (i ≤ j)) (fun i j => decide (i ≤ j)) (eK (.int 1)) (eF intP (aC (eIx (eV 0) (eU opNeg (eK (.int 1)))) (aN))) (eK (.int 4)))))) (sNil))
def f_is_kind : Fn := runB 1 b_is_kind
theorem ok_is_kind (T : Tx w K mg) : OkF P w K mg base 2 "is_kind" ["thing"] f_is_kind :=
  (ok_fn (k := 1) (N := ["thing"]) T.f_is_kind sc_is_kind bi_is_kind fun cdv A outer s H E G hr => sj_cons (sj_if (tj_w (wj_or (tj_not (tj_v (ej_isi T.b_isinstance (aj_cons (ej_v 0) (aj_cons (ej_ty T.b_str) (aj_nil)))))) (wj_or1 (tj_not (tj_lele (ej_int) (ej_len T.b_len (aj_cons (ej_v 0) (aj_nil))) (ej_add (ej_gI T.c_MOST_LETTERS) (ej_int))))))) (sj_cons (sj_ret (ej_bl)) (sj_nil)) (sj_nil)) (sj_cons (sj_ret (ej_and (ej_call (ok_consists_of T) (hr.mono (by decide)) (aj_cons (ej_slice (ej_v 0) (oj_none) (oj_some (ej_neg (ej_int)))) (aj_cons (ej_gS T.c_LOWER) (aj_nil)))) (ej_and (ej_inG hr.u65 (ej_ixG hr.u16 (ej_v 0) (ej_neg (ej_int))) (ej_gS T.c_FIGURES)) (ej_one (ej_lele (ej_int) (ej_intC T.b_int (aj_cons (ej_ixG hr.u16 (ej_v 0) (ej_neg (ej_int))) (aj_nil))) (ej_gI T.c_MOST_SIZE)))))) (sj_nil)))
def b_is_integer : MS := sSeq (sRet (eAnd (eF isiP (aC (eV 0) (aC (eK (.ty "int")) (aN)))) (eNot (eF isiP (aC (eV 0) (aC (eK (.ty "bool")) (aN))))))) (sNil)
def f_is_integer : Fn := runB 1 b_is_integer
theorem ok_is_integer (T : Tx w K mg) : OkF P w K mg base 1 "is_integer" ["thing"] f_is_integer :=
  (ok_fn (k := 0) (N := ["thing"]) T.f_is_integer sc_is_integer bi_is_integer fun cdv A outer s H E G hr => sj_cons (sj_ret (ej_and (ej_isi T.b_isinstance (aj_cons (ej_v 0) (aj_cons (ej_ty T.b_int) (aj_nil)))) (ej_one (ej_not (ej_isi T.b_isinstance (aj_cons (ej_v 0) (aj_cons (ej_ty T.b_bool) (aj_nil)))))))) (sj_nil))
def b_is_offset : MS := sSeq (sRet (eAnd (eCall 1 f_is_integer (aC (eV 0) (aN))) (eCh (fun i j => decide (i ≤ j)) (fun i j => decide (i < j)) (eK (.int 0)) (eV 0) (eK (.int 8))))) (sNil)
def f_is_offset : Fn := runB 1 b_is_offset
theorem ok_is_offset (T : Tx w K mg) : OkF P w K mg base 2 "is_offset" ["thing"] f_is_offset :=
  (ok_fn (k := 1) (N := ["thing"]) T.f_is_offset sc_is_offset bi_is_offset fun cdv A outer s H E G hr => sj_cons (sj_ret (ej_and (ej_call (ok_is_integer T) (hr.mono (by decide)) (aj_cons (ej_v 0) (aj_nil))) (ej_one (ej_lelt (ej_int) (ej_v 0) (ej_gI T.c_WINDOW))))) (sj_nil))
def b_is_number : MS := sSeq (sRet (eAnd (eCall 1 f_is_integer (aC (eV 0) (aN))) (eB opLt (eF absP (aC (eV 0) (aN))) (eB opPow (eK (.int 10)) (eK (.int 40)))))) (sNil)
def f_is_number : Fn := runB 1 b_is_number
theorem ok_is_number (T : Tx w K mg) : OkF P w K mg base 2 "is_number" ["thing"] f_is_number :=
  (ok_fn (k := 1) (N := ["thing"]) T.f_is_number sc_is_number bi_is_number fun cdv A outer s H E G hr => sj_cons (sj_ret (ej_and (ej_call (ok_is_integer T) (hr.mono (by decide)) (aj_cons (ej_v 0) (aj_nil))) (ej_one (ej_lt (ej_abs T.b_abs (aj_cons (ej_v 0) (aj_nil))) (ej_pow (ej_int) (ej_int)))))) (sj_nil))
def b_is_value : MS := sSeq (sRet (eOr (eCall 1 f_is_number (aC (eV 0) (aN))) (eCall 1 f_is_name (aC (eV 0) (aN))))) (sNil)
def f_is_value : Fn := runB 1 b_is_value
theorem ok_is_value (T : Tx w K mg) : OkF P w K mg base 3 "is_value" ["thing"] f_is_value :=
  (ok_fn (k := 2) (N := ["thing"]) T.f_is_value sc_is_value bi_is_value fun cdv A outer s H E G hr => sj_cons (sj_ret (ej_or (ej_call (ok_is_number T) (hr.mono (by decide)) (aj_cons (ej_v 0) (aj_nil))) (ej_one (ej_call (ok_is_name T) (hr.mono (by decide)) (aj_cons (ej_v 0) (aj_nil)))))) (sj_nil))
def b_is_many : MS := sSeq (sRet (eAnd (eCall 1 f_is_integer (aC (eV 0) (aN))) (eCh (fun i j => decide (i ≤ j)) (fun i j => decide (i ≤ j)) (eK (.int 1)) (eV 0) (eK (.int 8))))) (sNil)
def f_is_many : Fn := runB 1 b_is_many
theorem ok_is_many (T : Tx w K mg) : OkF P w K mg base 2 "is_many" ["thing"] f_is_many :=
  (ok_fn (k := 1) (N := ["thing"]) T.f_is_many sc_is_many bi_is_many fun cdv A outer s H E G hr => sj_cons (sj_ret (ej_and (ej_call (ok_is_integer T) (hr.mono (by decide)) (aj_cons (ej_v 0) (aj_nil))) (ej_one (ej_lele (ej_int) (ej_v 0) (ej_gI T.c_MOST_BYTES))))) (sj_nil))
def b_is_step : MS := sSeq (sIf (tOr (tN (tV (eF isiP (aC (eV 0) (aC (eK (.ty "tuple")) (aN)))))) (tOr (tB opEq (eF lenP (aC (eV 0) (aN))) (eK (.int 0))) (tN (tV (eF isiP (aC (eIx (eV 0) (eK (.int 0))) (aC (eK (.ty "str")) (aN)))))))) (sSeq (sRet (eK (.bl false))) (sNil)) (sNil)) (sSeq (sIf (tNTab t_PARTS (eIx (eV 0) (eK (.int 0)))) (sSeq (sRet (eK (.bl false))) (sNil)) (sNil)) (sSeq (sSet 1 (eTabAt t_PARTS (eIx (eV 0) (eK (.int 0))))) (sSeq (sIf (tB opNe (eF lenP (aC (eV 0) (aN))) (eB opAdd (eF lenP (aC (eV 1) (aN))) (eK (.int 1)))) (sSeq (sRet (eK (.bl false))) (sNil)) (sNil)) (sSeq (sRet (eF allP (aC (eLc (iZp (eV 1) (eSl (eV 0) (oS (eK (.int 1))) (oN))) (effT 2 (effsC (effN 2) (effsC (effN 3) (effsN)))) tYes (eCallL [("is_name", 1, f_is_name), ("is_kind", 1, f_is_kind), ("is_offset", 1, f_is_offset), ("is_value", 1, f_is_value), ("is_many", 1, f_is_many)] 2 (aC (eV 3) (aN))) [2, 3]) (aN)))) (sNil)))))
def f_is_step : Fn := runB 4 b_is_step
theorem ok_is_step (T : Tx w K mg) : OkF P w K mg base 4 "is_step" ["thing"] f_is_step :=
  (ok_fn (k := 3) (N := ["thing", "checks", "check", "part"]) T.f_is_step sc_is_step bi_is_step fun cdv A outer s H E G hr => sj_cons (sj_if (tj_w (wj_or (tj_not (tj_v (ej_isi T.b_isinstance (aj_cons (ej_v 0) (aj_cons (ej_ty T.b_tuple) (aj_nil)))))) (wj_or (tj_eq hr.units (ej_len T.b_len (aj_cons (ej_v 0) (aj_nil))) (ej_int)) (wj_or1 (tj_not (tj_v (ej_isi T.b_isinstance (aj_cons (ej_ixG hr.u16 (ej_v 0) (ej_int)) (aj_cons (ej_ty T.b_str) (aj_nil)))))))))) (sj_cons (sj_ret (ej_bl)) (sj_nil)) (sj_nil)) (sj_cons (sj_if (tj_tabNot T.t_PARTS (ej_ixG hr.u16 (ej_v 0) (ej_int))) (sj_cons (sj_ret (ej_bl)) (sj_nil)) (sj_nil)) (sj_cons (sj_set 1 sc_is_step.nd (ej_tabAt T.t_PARTS (ej_ixG hr.u16 (ej_v 0) (ej_int)))) (sj_cons (sj_if (tj_ne hr.units (ej_len T.b_len (aj_cons (ej_v 0) (aj_nil))) (ej_add (ej_len T.b_len (aj_cons (ej_v 1) (aj_nil))) (ej_int))) (sj_cons (sj_ret (ej_bl)) (sj_nil)) (sj_nil)) (sj_cons (sj_ret (ej_all rfl T.b_all (aj_cons (ej_lc0 (own := [("check", 2), ("part", 3)]) (g := (gTup _ 2 (gCons (gName 2) (gCons (gName 3) (gNil))))) rfl sc_is_step.nd (RZ.pi_zipA rfl T.b_zip pa_d) (src_zip (ej_v 1) (ej_slice (ej_v 0) (oj_some (ej_int)) (oj_none))) (blkOk_by (own := [("check", 2), ("part", 3)]) (N := ["thing", "checks", "check", "part"]) (sc := defScope s_is_step) (by decide +kernel)) (fun _ _ _ _ _ => pg_tup rfl (pgs_cons (pg_name (i := 2) sc_is_step.nd rfl (by first | exact Or.inl rfl | exact Or.inr rfl)) (pgs_cons (pg_name (i := 3) sc_is_step.nd rfl (by first | exact Or.inl rfl | exact Or.inr rfl)) (pgs_nil)))) (go_tup (gso_cons (go_name) (gso_cons (go_name) (gso_nil)))) (by decide) (fun B hB => by obtain ⟨s', H', Cc, cl, fp, hB⟩ := hB; obtain ⟨BX, W', tk', G'⟩ := B; cases hB; exact ej_callL (k := 3) 2 (List.forall_mem_cons.mpr ⟨⟨["thing"], rfl, (ok_is_name T).mono (by decide)⟩, (List.forall_mem_cons.mpr ⟨⟨["thing"], rfl, (ok_is_kind T).mono (by decide)⟩, (List.forall_mem_cons.mpr ⟨⟨["thing"], rfl, (ok_is_offset T).mono (by decide)⟩, (List.forall_mem_cons.mpr ⟨⟨["thing"], rfl, (ok_is_value T).mono (by decide)⟩, (List.forall_mem_cons.mpr ⟨⟨["thing"], rfl, (ok_is_many T).mono (by decide)⟩, (fun _ h => nomatch h)⟩)⟩)⟩)⟩)⟩) (hr.mono (by decide)) (aj_cons (ej_v 3) (aj_nil)))) (aj_nil)))) (sj_nil))))))
def b_size_of : MS := sSeq (sRet (eF intP (aC (eIx (eV 0) (eU opNeg (eK (.int 1)))) (aN)))) (sNil)
def f_size_of : Fn := runB 1 b_size_of
theorem ok_size_of (T : Tx w K mg) : OkF P w K mg base 1 "size_of" ["kind"] f_size_of :=
  (ok_fn (k := 0) (N := ["kind"]) T.f_size_of sc_size_of bi_size_of fun cdv A outer s H E G hr => sj_cons (sj_ret (ej_intC T.b_int (aj_cons (ej_ixG hr.u16 (ej_v 0) (ej_neg (ej_int))) (aj_nil)))) (sj_nil))
def b_reads_at : MS := sSeq (sIf (tB opEq (eIx (eV 0) (eK (.int 0))) (eK (.str "read"))) (sSeq (sRet (eT (aC (eIx (eV 0) (eK (.int 3))) (aC (eIx (eV 0) (eK (.int 4))) (aC (eCall 1 f_size_of (aC (eIx (eV 0) (eK (.int 2))) (aN))) (aN)))))) (sNil)) (sNil)) (sSeq (sIf (tB opEq (eIx (eV 0) (eK (.int 0))) (eK (.str "copy"))) (sSeq (sRet (eT (aC (eIx (eV 0) (eK (.int 4))) (aC (eIx (eV 0) (eK (.int 5))) (aC (eIx (eV 0) (eK (.int 1))) (aN)))))) (sNil)) (sNil)) (sSeq (sRet (eK .non)) (sNil)))
def f_reads_at : Fn := runB 1 b_reads_at
theorem ok_reads_at (T : Tx w K mg) : OkF P w K mg base 2 "reads_at" ["step"] f_reads_at :=
  (ok_fn (k := 1) (N := ["step"]) T.f_reads_at sc_reads_at bi_reads_at fun cdv A outer s H E G hr => sj_cons (sj_if (tj_eq hr.units (ej_ixG hr.u16 (ej_v 0) (ej_int)) (ej_str)) (sj_cons (sj_ret (ej_tup (aj_cons (ej_ixG hr.u16 (ej_v 0) (ej_int)) (aj_cons (ej_ixG hr.u16 (ej_v 0) (ej_int)) (aj_cons (ej_call (ok_size_of T) (hr.mono (by decide)) (aj_cons (ej_ixG hr.u16 (ej_v 0) (ej_int)) (aj_nil))) (aj_nil)))))) (sj_nil)) (sj_nil)) (sj_cons (sj_if (tj_eq hr.units (ej_ixG hr.u16 (ej_v 0) (ej_int)) (ej_str)) (sj_cons (sj_ret (ej_tup (aj_cons (ej_ixG hr.u16 (ej_v 0) (ej_int)) (aj_cons (ej_ixG hr.u16 (ej_v 0) (ej_int)) (aj_cons (ej_ixG hr.u16 (ej_v 0) (ej_int)) (aj_nil)))))) (sj_nil)) (sj_nil)) (sj_cons (sj_ret (ej_non)) (sj_nil))))
def b_writes_at : MS := sSeq (sIf (tB opEq (eIx (eV 0) (eK (.int 0))) (eK (.str "write"))) (sSeq (sRet (eT (aC (eIx (eV 0) (eK (.int 2))) (aC (eIx (eV 0) (eK (.int 3))) (aC (eCall 1 f_size_of (aC (eIx (eV 0) (eK (.int 1))) (aN))) (aN)))))) (sNil)) (sNil)) (sSeq (sIf (tOr (tB opEq (eIx (eV 0) (eK (.int 0))) (eK (.str "copy"))) (tB opEq (eIx (eV 0) (eK (.int 0))) (eK (.str "blank")))) (sSeq (sRet (eT (aC (eIx (eV 0) (eK (.int 2))) (aC (eIx (eV 0) (eK (.int 3))) (aC (eIx (eV 0) (eK (.int 1))) (aN)))))) (sNil)) (sNil)) (sSeq (sRet (eK .non)) (sNil)))
def f_writes_at : Fn := runB 1 b_writes_at
theorem ok_writes_at (T : Tx w K mg) : OkF P w K mg base 2 "writes_at" ["step"] f_writes_at :=
  (ok_fn (k := 1) (N := ["step"]) T.f_writes_at sc_writes_at bi_writes_at fun cdv A outer s H E G hr => sj_cons (sj_if (tj_eq hr.units (ej_ixG hr.u16 (ej_v 0) (ej_int)) (ej_str)) (sj_cons (sj_ret (ej_tup (aj_cons (ej_ixG hr.u16 (ej_v 0) (ej_int)) (aj_cons (ej_ixG hr.u16 (ej_v 0) (ej_int)) (aj_cons (ej_call (ok_size_of T) (hr.mono (by decide)) (aj_cons (ej_ixG hr.u16 (ej_v 0) (ej_int)) (aj_nil))) (aj_nil)))))) (sj_nil)) (sj_nil)) (sj_cons (sj_if (tj_w (wj_or (tj_eq hr.units (ej_ixG hr.u16 (ej_v 0) (ej_int)) (ej_str)) (wj_or1 (tj_eq hr.units (ej_ixG hr.u16 (ej_v 0) (ej_int)) (ej_str))))) (sj_cons (sj_ret (ej_tup (aj_cons (ej_ixG hr.u16 (ej_v 0) (ej_int)) (aj_cons (ej_ixG hr.u16 (ej_v 0) (ej_int)) (aj_cons (ej_ixG hr.u16 (ej_v 0) (ej_int)) (aj_nil)))))) (sj_nil)) (sj_nil)) (sj_cons (sj_ret (ej_non)) (sj_nil))))
def b_stretches : MS := sSeq (sRet (eLc (iSeq (eT (aC (eCall 1 f_reads_at (aC (eV 0) (aN))) (aC (eCall 1 f_writes_at (aC (eV 0) (aN))) (aN))))) (effN 1) (tB opNotN (eV 1) (eK .non)) (eV 1) [1])) (sNil)
def f_stretches : Fn := runB 2 b_stretches
theorem ok_stretches (T : Tx w K mg) : OkF P w K mg base 3 "stretches" ["step"] f_stretches :=
  (ok_fn (k := 2) (N := ["step", "one"]) T.f_stretches sc_stretches bi_stretches fun cdv A outer s H E G hr => sj_cons (sj_ret (ej_lc1 (own := [("one", 1)]) (g := gName 1) rfl sc_stretches.nd (pi_seq pe_d) (src_seq (ej_tup (aj_cons (ej_call (ok_reads_at T) (hr.mono (by decide)) (aj_cons (ej_v 0) (aj_nil))) (aj_cons (ej_call (ok_writes_at T) (hr.mono (by decide)) (aj_cons (ej_v 0) (aj_nil))) (aj_nil))))) (blkOk_by (own := [("one", 1)]) (N := ["step", "one"]) (sc := defScope s_stretches) (by decide +kernel)) (fun _ _ _ _ _ => pg_name (i := 1) sc_stretches.nd rfl (by first | exact Or.inl rfl | exact Or.inr rfl)) (go_name) (by decide) (fun B hB => by obtain ⟨s', H', Cc, cl, fp, hB⟩ := hB; obtain ⟨BX, W', tk', G'⟩ := B; cases hB; exact tj_isnt (ej_v 1) (ej_non)) (fun B hB => by obtain ⟨s', H', Cc, cl, fp, hB⟩ := hB; obtain ⟨BX, W', tk', G'⟩ := B; cases hB; exact ej_v 1))) (sj_nil))
def b_fits_window : MS := sSeq (sRet (eF allP (aC (eLc (iSeq (eCall 1 f_stretches (aC (eV 0) (aN)))) (effT 3 (effsC (effN 1) (effsC (effN 2) (effsC (effN 3) (effsN))))) tYes (eB opLe (eB opAdd (eV 2) (eV 3)) (eK (.int 8))) [1, 2, 3]) (aN)))) (sNil)
def f_fits_window : Fn := runB 4 b_fits_window
theorem ok_fits_window (T : Tx w K mg) : OkF P w K mg base 4 "fits_window" ["step"] f_fits_window :=
  (ok_fn (k := 3) (N := ["step", "name", "offset", "many"]) T.f_fits_window sc_fits_window bi_fits_window fun cdv A outer s H E G hr => sj_cons (sj_ret (ej_all rfl T.b_all (aj_cons (ej_lc0 (own := [("name", 1), ("offset", 2), ("many", 3)]) (g := (gTup _ 3 (gCons (gName 1) (gCons (gName 2) (gCons (gName 3) (gNil)))))) rfl sc_fits_window.nd (pi_seq pe_d) (src_seq (ej_call (ok_stretches T) (hr.mono (by decide)) (aj_cons (ej_v 0) (aj_nil)))) (blkOk_by (own := [("name", 1), ("offset", 2), ("many", 3)]) (N := ["step", "name", "offset", "many"]) (sc := defScope s_fits_window) (by decide +kernel)) (fun _ _ _ _ _ => pg_tup rfl (pgs_cons (pg_name (i := 1) sc_fits_window.nd rfl (by first | exact Or.inl rfl | exact Or.inr rfl)) (pgs_cons (pg_name (i := 2) sc_fits_window.nd rfl (by first | exact Or.inl rfl | exact Or.inr rfl)) (pgs_cons (pg_name (i := 3) sc_fits_window.nd rfl (by first | exact Or.inl rfl | exact Or.inr rfl)) (pgs_nil))))) (go_tup (gso_cons (go_name) (gso_cons (go_name) (gso_cons (go_name) (gso_nil))))) (by decide) (fun B hB => by obtain ⟨s', H', Cc, cl, fp, hB⟩ := hB; obtain ⟨BX, W', tk', G'⟩ := B; cases hB; exact ej_le (ej_add (ej_v 2) (ej_v 3)) (ej_gI T.c_WINDOW))) (aj_nil)))) (sj_nil))
def b_names_used : MS := sSeq (sRet (eLc (iSeq (eCall 1 f_stretches (aC (eV 0) (aN)))) (effT 3 (effsC (effN 1) (effsC (effN 2) (effsC (effN 3) (effsN))))) tYes (eV 1) [1, 2, 3])) (sNil)
def f_names_used : Fn := runB 4 b_names_used
theorem ok_names_used (T : Tx w K mg) : OkF P w K mg base 4 "names_used" ["step"] f_names_used :=
  (ok_fn (k := 3) (N := ["step", "name", "offset", "many"]) T.f_names_used sc_names_used bi_names_used fun cdv A outer s H E G hr => sj_cons (sj_ret (ej_lc0 (own := [("name", 1), ("offset", 2), ("many", 3)]) (g := (gTup _ 3 (gCons (gName 1) (gCons (gName 2) (gCons (gName 3) (gNil)))))) rfl sc_names_used.nd (pi_seq pe_d) (src_seq (ej_call (ok_stretches T) (hr.mono (by decide)) (aj_cons (ej_v 0) (aj_nil)))) (blkOk_by (own := [("name", 1), ("offset", 2), ("many", 3)]) (N := ["step", "name", "offset", "many"]) (sc := defScope s_names_used) (by decide +kernel)) (fun _ _ _ _ _ => pg_tup rfl (pgs_cons (pg_name (i := 1) sc_names_used.nd rfl (by first | exact Or.inl rfl | exact Or.inr rfl)) (pgs_cons (pg_name (i := 2) sc_names_used.nd rfl (by first | exact Or.inl rfl | exact Or.inr rfl)) (pgs_cons (pg_name (i := 3) sc_names_used.nd rfl (by first | exact Or.inl rfl | exact Or.inr rfl)) (pgs_nil))))) (go_tup (gso_cons (go_name) (gso_cons (go_name) (gso_cons (go_name) (gso_nil))))) (by decide) (fun B hB => by obtain ⟨s', H', Cc, cl, fp, hB⟩ := hB; obtain ⟨BX, W', tk', G'⟩ := B; cases hB; exact ej_v 1))) (sj_nil))
def b_step_fits : MS := sSeq (sIf (tOr (tN (tV (eCall 1 f_is_step (aC (eV 0) (aN))))) (tN (tV (eCall 1 f_fits_window (aC (eV 0) (aN)))))) (sSeq (sRet (eK (.bl false))) (sNil)) (sNil)) (sSeq (sIf (tV (eF anyP (aC (eLc (iSeq (eCall 1 f_names_used (aC (eV 0) (aN)))) (effN 5) tYes (eIn true (eV 5) (eV 1)) [5]) (aN)))) (sSeq (sRet (eK (.bl false))) (sNil)) (sNil)) (sSeq (sPar [3, 4] (aC (eCall 1 f_value_made (aC (eV 0) (aN))) (aC (eCall 1 f_value_used (aC (eV 0) (aN))) (aN)))) (sSeq (sIf (tAnd (tB opNotN (eV 3) (eK .non)) (tOr (tIn false (eV 3) (eV 1)) (tIn false (eV 3) (eV 2)))) (sSeq (sRet (eK (.bl false))) (sNil)) (sNil)) (sSeq (sRet (eOr (eB opIsN (eV 4) (eK .non)) (eIn false (eV 4) (eV 2)))) (sNil)))))
def f_step_fits : Fn := runB 6 b_step_fits
theorem ok_step_fits (T : Tx w K mg) : OkF P w K mg base 5 "step_fits" ["step", "names", "values"] f_step_fits :=
  (ok_fn (k := 4) (N := ["step", "names", "values", "made", "used", "name"]) T.f_step_fits sc_step_fits bi_step_fits fun cdv A outer s H E G hr => sj_cons (sj_if (tj_w (wj_or (tj_not (tj_v (ej_call (ok_is_step T) (hr.mono (by decide)) (aj_cons (ej_v 0) (aj_nil))))) (wj_or1 (tj_not (tj_v (ej_call (ok_fits_window T) (hr.mono (by decide)) (aj_cons (ej_v 0) (aj_nil)))))))) (sj_cons (sj_ret (ej_bl)) (sj_nil)) (sj_nil)) (sj_cons (sj_if (tj_v (ej_any rfl T.b_any (aj_cons (ej_lc0 (own := [("name", 5)]) (g := gName 5) rfl sc_step_fits.nd (pi_seq pe_d) (src_seq (ej_call (ok_names_used T) (hr.mono (by decide)) (aj_cons (ej_v 0) (aj_nil)))) (blkOk_by (own := [("name", 5)]) (N := ["step", "names", "values", "made", "used", "name"]) (sc := defScope s_step_fits) (by decide +kernel)) (fun _ _ _ _ _ => pg_name (i := 5) sc_step_fits.nd rfl (by first | exact Or.inl rfl | exact Or.inr rfl)) (go_name) (by decide) (fun B hB => by obtain ⟨s', H', Cc, cl, fp, hB⟩ := hB; obtain ⟨BX, W', tk', G'⟩ := B; cases hB; exact ej_ninG hr.u65 (ej_v 5) (ej_v 1))) (aj_nil)))) (sj_cons (sj_ret (ej_bl)) (sj_nil)) (sj_nil)) (sj_cons (sj_par2 3 4 rfl sc_step_fits.nd (aj_cons (ej_call (ok_value_made T) (hr.mono (by decide)) (aj_cons (ej_v 0) (aj_nil))) (aj_cons (ej_call (ok_value_used T) (hr.mono (by decide)) (aj_cons (ej_v 0) (aj_nil))) (aj_nil)))) (sj_cons (sj_if (tj_w (wj_and (tj_isnt (ej_v 3) (ej_non)) (wj_and1 (tj_w (wj_or (tj_inG hr.u65 (ej_v 3) (ej_v 1)) (wj_or1 (tj_inG hr.u65 (ej_v 3) (ej_v 2)))))))) (sj_cons (sj_ret (ej_bl)) (sj_nil)) (sj_nil)) (sj_cons (sj_ret (ej_or (ej_is (ej_v 4) (ej_non)) (ej_one (ej_inG hr.u65 (ej_v 4) (ej_v 2))))) (sj_nil))))))
def b_check_steps : MS := sSeq (sIf (tOr (tN (tV (eF isiP (aC (eV 0) (aC (eK (.ty "tuple")) (aN)))))) (tB opGt (eF lenP (aC (eV 0) (aN))) (eK (.int 12)))) (sSeq (sNo) (sNil)) (sNil)) (sSeq (sSet 2 (eLL (aN))) (sSeq (sFor (iEn (eV 0)) (effT 2 (effsC (effN 3) (effsC (effN 4) (effsN)))) (sSeq (sIf (tN (tV (eCall 3 f_step_fits (aC (eV 4) (aC (eV 1) (aC (eV 2) (aN))))))) (sSeq (sNo) (sNil)) (sNil)) (sSeq (sIf (tB opNotN (eCall 1 f_value_made (aC (eV 4) (aN))) (eK .non)) (sSeq (sExpr (eLm fApp (eV 2) (aC (eCall 1 f_value_made (aC (eV 4) (aN))) aN))) (sNil)) (sNil)) (sNil)))) (sNil)))
def f_check_steps : Fn := runZ 5 b_check_steps
theorem ok_check_steps (T : Tx w K mg) : OkF P w K mg base 6 "check_steps" ["steps", "names"] f_check_steps :=
  ok_fz (ok_fn (k := 5) (N := ["steps", "names", "values", "index", "step"]) T.f_check_steps sc_check_steps bi_check_steps fun cdv A outer s H E G hr => sj_cons (sj_if (tj_w (wj_or (tj_not (tj_v (ej_isi T.b_isinstance (aj_cons (ej_v 0) (aj_cons (ej_ty T.b_tuple) (aj_nil)))))) (wj_or1 (tj_gt (ej_len T.b_len (aj_cons (ej_v 0) (aj_nil))) (ej_gI T.c_MOST_STEPS))))) (sj_cons (sj_no) (sj_nil)) (sj_nil)) (sj_cons (sj_set 2 sc_check_steps.nd (ej_lstL (aj_nil))) (sj_cons (sj_for (g := (gTup _ 2 (gCons (gName 3) (gCons (gName 4) (gNil))))) (passes_of rfl) rfl (pi_enumA rfl T.b_enumerate pa_d) (src_enum (ej_v 0)) (pg_tup rfl (pgs_cons (pg_name (i := 3) sc_check_steps.nd rfl (by first | exact Or.inl rfl | exact Or.inr rfl)) (pgs_cons (pg_name (i := 4) sc_check_steps.nd rfl (by first | exact Or.inl rfl | exact Or.inr rfl)) (pgs_nil)))) (go_tup (gso_cons (go_name) (gso_cons (go_name) (gso_nil)))) (sj_cons (sj_if (tj_not (tj_v (ej_call (ok_step_fits T) (hr.mono (by decide)) (aj_cons (ej_v 4) (aj_cons (ej_v 1) (aj_cons (ej_v 2) (aj_nil))))))) (sj_cons (sj_no) (sj_nil)) (sj_nil)) (sj_cons (sj_if (tj_isnt (ej_call (ok_value_made T) (hr.mono (by decide)) (aj_cons (ej_v 4) (aj_nil))) (ej_non)) (sj_cons (sj_expr (ej_app (ej_v 2) (ej_call (ok_value_made T) (hr.mono (by decide)) (aj_cons (ej_v 4) (aj_nil))))) (sj_nil)) (sj_nil)) (sj_nil)))) (sj_nil))))
def b_check_places : MS := sSeq (sIf (tOr (tN (tV (eF isiP (aC (eV 0) (aC (eK (.ty "tuple")) (aN)))))) (tB opGt (eF lenP (aC (eV 0) (aN))) (eK (.int 2)))) (sSeq (sNo) (sNil)) (sNil)) (sSeq (sSet 1 (eLL (aN))) (sSeq (sFor (iEn (eV 0)) (effT 2 (effsC (effN 2) (effsC (effN 3) (effsN)))) (sSeq (sIf (tOr (tN (tV (eF isiP (aC (eV 3) (aC (eK (.ty "tuple")) (aN)))))) (tOr (tB opNe (eF lenP (aC (eV 3) (aN))) (eK (.int 2))) (tOr (tN (tV (eCall 1 f_is_name (aC (eIx (eV 3) (eK (.int 0))) (aN))))) (tN (tV (eCall 1 f_is_kind (aC (eIx (eV 3) (eK (.int 1))) (aN)))))))) (sSeq (sNo) (sNil)) (sNil)) (sSeq (sIf (tIn false (eIx (eV 3) (eK (.int 0))) (eV 1)) (sSeq (sNo) (sNil)) (sNil)) (sSeq (sExpr (eLm fApp (eV 1) (aC (eIx (eV 3) (eK (.int 0))) aN))) (sNil))))) (sSeq (sRet (eV 1)) (sNil))))
def f_check_places : Fn := runZ 4 b_check_places
theorem ok_check_places (T : Tx w K mg) : OkF P w K mg base 3 "check_places" ["places"] f_check_places :=
  ok_fz (ok_fn (k := 2) (N := ["places", "known", "index", "place"]) T.f_check_places sc_check_places bi_check_places fun cdv A outer s H E G hr => sj_cons (sj_if (tj_w (wj_or (tj_not (tj_v (ej_isi T.b_isinstance (aj_cons (ej_v 0) (aj_cons (ej_ty T.b_tuple) (aj_nil)))))) (wj_or1 (tj_gt (ej_len T.b_len (aj_cons (ej_v 0) (aj_nil))) (ej_gI T.c_MOST_PLACES))))) (sj_cons (sj_no) (sj_nil)) (sj_nil)) (sj_cons (sj_set 1 sc_check_places.nd (ej_lstL (aj_nil))) (sj_cons (sj_for (g := (gTup _ 2 (gCons (gName 2) (gCons (gName 3) (gNil))))) (passes_of rfl) rfl (pi_enumA rfl T.b_enumerate pa_d) (src_enum (ej_v 0)) (pg_tup rfl (pgs_cons (pg_name (i := 2) sc_check_places.nd rfl (by first | exact Or.inl rfl | exact Or.inr rfl)) (pgs_cons (pg_name (i := 3) sc_check_places.nd rfl (by first | exact Or.inl rfl | exact Or.inr rfl)) (pgs_nil)))) (go_tup (gso_cons (go_name) (gso_cons (go_name) (gso_nil)))) (sj_cons (sj_if (tj_w (wj_or (tj_not (tj_v (ej_isi T.b_isinstance (aj_cons (ej_v 3) (aj_cons (ej_ty T.b_tuple) (aj_nil)))))) (wj_or (tj_ne hr.units (ej_len T.b_len (aj_cons (ej_v 3) (aj_nil))) (ej_int)) (wj_or (tj_not (tj_v (ej_call (ok_is_name T) (hr.mono (by decide)) (aj_cons (ej_ixG hr.u16 (ej_v 3) (ej_int)) (aj_nil))))) (wj_or1 (tj_not (tj_v (ej_call (ok_is_kind T) (hr.mono (by decide)) (aj_cons (ej_ixG hr.u16 (ej_v 3) (ej_int)) (aj_nil)))))))))) (sj_cons (sj_no) (sj_nil)) (sj_nil)) (sj_cons (sj_if (tj_inG hr.u65 (ej_ixG hr.u16 (ej_v 3) (ej_int)) (ej_v 1)) (sj_cons (sj_no) (sj_nil)) (sj_nil)) (sj_cons (sj_expr (ej_app (ej_v 1) (ej_ixG hr.u16 (ej_v 3) (ej_int)))) (sj_nil))))) (sj_cons (sj_ret (ej_v 1)) (sj_nil)))))
def b_Text_init : MS := sSeq (sSet 4 (eCall 2 f_check_pointers (aC (eV 2) (aC (eCall 1 f_check_places (aC (eV 1) (aN))) (aN))))) (sSeq (sExpr (eCall 2 f_check_steps (aC (eV 3) (aC (eV 4) (aN))))) (sSeq (sFldS ["Text"] "places" (eV 0) (eV 1)) (sSeq (sFldS ["Text"] "pointers" (eV 0) (eV 2)) (sSeq (sFldS ["Text"] "steps" (eV 0) (eV 3)) (sNil)))))
def f_Text_init : Fn := runB 5 b_Text_init
theorem okA_Text_init (T : Tx w K mg) : OkA P w K mg base 7 "__init__" "Text.__init__" (He.ma K (He.ga K "Text") "__init__") s_Text_init [.ref (He.dflAt ("Text", some "__init__") 0 K), .ref (He.dflAt ("Text", some "__init__") 1 K), .ref (He.dflAt ("Text", some "__init__") 2 K)] ["self", "places", "pointers", "steps"] f_Text_init :=
  (okA_fn (k := 6) (N := ["self", "places", "pointers", "steps", "names"]) T.f_Text_init sc_Text_init fun cdv A outer s H E G hr => sj_cons (sj_set 4 sc_Text_init.nd (ej_call (ok_check_pointers T) (hr.mono (by decide)) (aj_cons (ej_v 2) (aj_cons (ej_call (ok_check_places T) (hr.mono (by decide)) (aj_cons (ej_v 1) (aj_nil))) (aj_nil))))) (sj_cons (sj_expr (ej_call (ok_check_steps T) (hr.mono (by decide)) (aj_cons (ej_v 3) (aj_cons (ej_v 4) (aj_nil))))) (sj_cons (sj_fld (List.forall_mem_cons.mpr ⟨⟨T.c_Text, T.na_Text_places⟩, (fun _ h => nomatch h)⟩) (ej_v 1) (ej_v 0)) (sj_cons (sj_fld (List.forall_mem_cons.mpr ⟨⟨T.c_Text, T.na_Text_pointers⟩, (fun _ h => nomatch h)⟩) (ej_v 2) (ej_v 0)) (sj_cons (sj_fld (List.forall_mem_cons.mpr ⟨⟨T.c_Text, T.na_Text_steps⟩, (fun _ h => nomatch h)⟩) (ej_v 3) (ej_v 0)) (sj_nil))))))
theorem form_Text_init1 (T : Tx w K mg) : Form P w K mg base 7 (He.ma K (He.ga K "Text") "__init__") f_Text_init 1 [.tup [], .tup [], .tup []] := (okA_Text_init T).formD 1 0 (by simp) rfl bi_Text_init1 (fun _ => .cons (nil_of T.n_Text_init_0) (.cons (nil_of T.n_Text_init_1) (.cons (nil_of T.n_Text_init_2) (.nil))))
theorem form_Text_init2 (T : Tx w K mg) : Form P w K mg base 7 (He.ma K (He.ga K "Text") "__init__") f_Text_init 2 [.tup [], .tup []] := (okA_Text_init T).formD 2 1 (by simp) rfl bi_Text_init2 (fun _ => .cons (nil_of T.n_Text_init_1) (.cons (nil_of T.n_Text_init_2) (.nil)))
theorem form_Text_init3 (T : Tx w K mg) : Form P w K mg base 7 (He.ma K (He.ga K "Text") "__init__") f_Text_init 3 [.tup []] := (okA_Text_init T).formD 3 2 (by simp) rfl bi_Text_init3 (fun _ => .cons (nil_of T.n_Text_init_2) (.nil))
theorem form_Text_init4 (T : Tx w K mg) : Form P w K mg base 7 (He.ma K (He.ga K "Text") "__init__") f_Text_init 4 [] := (okA_Text_init T).formD 4 3 (by simp) rfl bi_Text_init4 (fun _ => .nil)
def b_bag : MS := sSeq (sSet 2 (eIf (tB opLt (eV 1) (eF lenP (aC (eV 0) (aN)))) (eIx (eV 0) (eV 1)) (eK (.int 0)))) (sSeq (sSet 3 (eIf (tB opGe (eF absP (aC (eV 2) (aN))) (eB opPow (eK (.int 10)) (eK (.int 18)))) (eF absP (aC (eV 2) (aN))) (eK (.int 0)))) (sSeq (sSet 4 (eB opAdd (eK (.int 104729)) (eB opMul (eK (.int 7919)) (eV 1)))) (sSeq (sFor (iSeq (eSl (eV 0) (oN) (oS (eK (.int 40))))) (effN 5) (sSeq (sSet 4 (eB opMod (eF intP (aC (eB opAdd (eB opAdd (eB opMul (eV 4) (eK (.int 48271))) (eB opMul (eV 5) (eK (.int 69621)))) (eK (.int 11))) (aN))) (eK (.int 2147483629)))) (sNil))) (sSeq (sRet (eLL (aC (eV 3) (aC (eB opAdd (eB opMod (eF intP (aC (eB opAdd (eV 4) (eB opMul (eK (.int 31)) (eV 2))) (aN))) (eK (.int 2147483563))) (eK (.int 1))) (aN))))) (sNil)))))
def f_bag : Fn := runB 6 b_bag
theorem ok_bag (T : Tx w K mg) : OkF P w K mg base 1 "_law_bag" ["_law_script", "_law_at"] f_bag :=
  (ok_fn (k := 0) (N := ["_law_script", "_law_at", "_law_cell", "_law_great", "_law_mixed", "_law_one"]) T.f_bag sc_bag bi_bag fun cdv A outer s H E G hr => sj_cons (sj_set 2 sc_bag.nd (ej_if (tj_lt (ej_v 1) (ej_len T.b_len (aj_cons (ej_v 0) (aj_nil)))) (ej_ixG hr.u16 (ej_v 0) (ej_v 1)) (ej_int))) (sj_cons (sj_set 3 sc_bag.nd (ej_if (tj_ge (ej_abs T.b_abs (aj_cons (ej_v 2) (aj_nil))) (ej_pow (ej_int) (ej_int))) (ej_abs T.b_abs (aj_cons (ej_v 2) (aj_nil))) (ej_int))) (sj_cons (sj_set 4 sc_bag.nd (ej_add (ej_int) (ej_mul (ej_int) (ej_v 1)))) (sj_cons (sj_for (g := gName 5) (passes_of rfl) rfl (pi_seq pe_d) (src_seq (ej_slice (ej_v 0) (oj_none) (oj_some (ej_int)))) (pg_name (i := 5) sc_bag.nd rfl (by first | exact Or.inl rfl | exact Or.inr rfl)) (go_name) (sj_cons (sj_set 4 sc_bag.nd (ej_mod (ej_intC T.b_int (aj_cons (ej_add (ej_add (ej_mul (ej_v 4) (ej_int)) (ej_mul (ej_v 5) (ej_int))) (ej_int)) (aj_nil))) (ej_int))) (sj_nil))) (sj_cons (sj_ret (ej_lstL (aj_cons (ej_v 3) (aj_cons (ej_add (ej_mod (ej_intC T.b_int (aj_cons (ej_add (ej_v 4) (ej_mul (ej_int) (ej_v 2))) (aj_nil))) (ej_int)) (ej_int)) (aj_nil))))) (sj_nil))))))
def b_take : MS := sSeq (sIf (tB opGt (eIx (eV 0) (eK (.int 0))) (eK (.int 0))) (sSeq (sSet 2 (eB opMod (eIx (eV 0) (eK (.int 0))) (eV 1))) (sSeq (sPut (eV 0) (eK (.int 0)) (eB opDiv (eIx (eV 0) (eK (.int 0))) (eV 1))) (sSeq (sRet (eV 2)) (sNil)))) (sNil)) (sSeq (sPut (eV 0) (eK (.int 1)) (eB opMod (eF intP (aC (eB opAdd (eB opMul (eIx (eV 0) (eK (.int 1))) (eK (.int 48271))) (eK (.int 12820163))) (aN))) (eK (.int 2147483647)))) (sSeq (sRet (eB opMod (eB opMod (eF intP (aC (eB opPow (eIx (eV 0) (eK (.int 1))) (eK (.int 3))) (aN))) (eK (.int 2147483629))) (eV 1))) (sNil)))
def f_take : Fn := runB 3 b_take
theorem ok_take (T : Tx w K mg) : OkF P w K mg base 1 "_law_take" ["_law_bag_here", "_law_many"] f_take :=
  (ok_fn (k := 0) (N := ["_law_bag_here", "_law_many", "_law_digit"]) T.f_take sc_take bi_take fun cdv A outer s H E G hr => sj_cons (sj_if (tj_gt (ej_ixG hr.u16 (ej_v 0) (ej_int)) (ej_int)) (sj_cons (sj_set 2 sc_take.nd (ej_mod (ej_ixG hr.u16 (ej_v 0) (ej_int)) (ej_v 1))) (sj_cons (sj_put hr.u16 (ej_fdiv (ej_ixG hr.u16 (ej_v 0) (ej_int)) (ej_v 1)) (ej_v 0) (ej_int)) (sj_cons (sj_ret (ej_v 2)) (sj_nil)))) (sj_nil)) (sj_cons (sj_put hr.u16 (ej_mod (ej_intC T.b_int (aj_cons (ej_add (ej_mul (ej_ixG hr.u16 (ej_v 0) (ej_int)) (ej_int)) (ej_int)) (aj_nil))) (ej_int)) (ej_v 0) (ej_int)) (sj_cons (sj_ret (ej_mod (ej_mod (ej_intC T.b_int (aj_cons (ej_pow (ej_ixG hr.u16 (ej_v 0) (ej_int)) (ej_int)) (aj_nil))) (ej_int)) (ej_v 1))) (sj_nil))))
def b_names : MS := sSeq (sSet 2 (eIx (eL (aC (eK (.str "")) (aC (eK (.str "p")) (aC (eK (.str "ab1")) (aC (eK (.str "pointer")) (aN)))))) (eCall 2 f_take (aC (eV 0) (aC (eK (.int 4)) (aN)))))) (sSeq (sPar [3, 4, 5] (aC (eCall 2 f_take (aC (eV 0) (aC (eB opAdd (eF lenP (aC (eV 2) (aN))) (eK (.int 1))) (aN)))) (aC (eCall 2 f_take (aC (eV 0) (aC (eK (.int 26)) (aN)))) (aC (eLL (aN)) (aN))))) (sSeq (sFor (iR1 (eV 1)) (effN 6) (sSeq (sSet 7 (eIx (eK (.str "abcdefghijklmnopqrstuvwxyz")) (eB opMod (eB opAdd (eV 4) (eB opMul (eK (.int 5)) (eV 6))) (eK (.int 26))))) (sSeq (sExpr (eLm fApp (eV 5) (aC (eB opAdd (eB opAdd (eSl (eV 2) (oN) (oS (eV 3))) (eV 7)) (eSl (eV 2) (oS (eV 3)) (oN))) aN))) (sNil)))) (sSeq (sRet (eV 5)) (sNil))))
def f_names : Fn := runZ 8 b_names
theorem ok_names (T : Tx w K mg) : OkF P w K mg base 2 "_law_names" ["_law_bag_here", "_law_many"] f_names :=
  ok_fz (ok_fn (k := 1) (N := ["_law_bag_here", "_law_many", "_law_stem", "_law_at", "_law_begin", "_law_found", "_law_k", "_law_sign"]) T.f_names sc_names bi_names fun cdv A outer s H E G hr => sj_cons (sj_set 2 sc_names.nd (ej_ixG hr.u16 (ej_lst (aj_cons (ej_str) (aj_cons (ej_str) (aj_cons (ej_str) (aj_cons (ej_str) (aj_nil)))))) (ej_call (ok_take T) (hr.mono (by decide)) (aj_cons (ej_v 0) (aj_cons (ej_int) (aj_nil)))))) (sj_cons (sj_par3 3 4 5 rfl sc_names.nd (aj_cons (ej_call (ok_take T) (hr.mono (by decide)) (aj_cons (ej_v 0) (aj_cons (ej_add (ej_len T.b_len (aj_cons (ej_v 2) (aj_nil))) (ej_int)) (aj_nil)))) (aj_cons (ej_call (ok_take T) (hr.mono (by decide)) (aj_cons (ej_v 0) (aj_cons (ej_int) (aj_nil)))) (aj_cons (ej_lstL (aj_nil)) (aj_nil))))) (sj_cons (sj_for (g := gName 6) (passes_of rfl) rfl (pi_range1 rfl T.b_range pa_d) (src_r1 (ej_v 1)) (pg_name (i := 6) sc_names.nd rfl (by first | exact Or.inl rfl | exact Or.inr rfl)) (go_name) (sj_cons (sj_set 7 sc_names.nd (ej_ixG hr.u16 (ej_str) (ej_mod (ej_add (ej_v 4) (ej_mul (ej_int) (ej_v 6))) (ej_int)))) (sj_cons (sj_expr (ej_app (ej_v 5) (ej_add (ej_add (ej_slice (ej_v 2) (oj_none) (oj_some (ej_v 3))) (ej_v 7)) (ej_slice (ej_v 2) (oj_some (ej_v 3)) (oj_none))))) (sj_nil)))) (sj_cons (sj_ret (ej_v 5)) (sj_nil)))))
def b_kinds : MS := sSeq (sSet 2 (eIx (eL (aC (eK (.str "int")) (aC (eK (.str "real")) (aC (eK (.str "i")) (aC (eK (.str "abcdef")) (aN)))))) (eCall 2 f_take (aC (eV 0) (aC (eK (.int 4)) (aN)))))) (sSeq (sSet 3 (eL (aC (eB opAdd (eV 2) (eK (.str "4"))) (aC (eB opAdd (eV 2) (eK (.str "2"))) (aC (eK (.str "half2")) (aC (eK (.str "byte1")) (aC (eK (.str "odd3")) (aC (eK (.str "word4")) (aC (eB opAdd (eV 2) (eK (.str "1"))) (aC (eK (.str "real4")) (aN))))))))))) (sSeq (sRet (eLc (iR1 (eV 1)) (effN 4) tYes (eIx (eV 3) (eCall 2 f_take (aC (eV 0) (aC (eK (.int 8)) (aN))))) [4])) (sNil)))
def f_kinds : Fn := runB 5 b_kinds
theorem ok_kinds (T : Tx w K mg) : OkF P w K mg base 2 "_law_kinds" ["_law_bag_here", "_law_many"] f_kinds :=
  (ok_fn (k := 1) (N := ["_law_bag_here", "_law_many", "_law_letters", "_law_some", "_law_k"]) T.f_kinds sc_kinds bi_kinds fun cdv A outer s H E G hr => sj_cons (sj_set 2 sc_kinds.nd (ej_ixG hr.u16 (ej_lst (aj_cons (ej_str) (aj_cons (ej_str) (aj_cons (ej_str) (aj_cons (ej_str) (aj_nil)))))) (ej_call (ok_take T) (hr.mono (by decide)) (aj_cons (ej_v 0) (aj_cons (ej_int) (aj_nil)))))) (sj_cons (sj_set 3 sc_kinds.nd (ej_lst (aj_cons (ej_add (ej_v 2) (ej_str)) (aj_cons (ej_add (ej_v 2) (ej_str)) (aj_cons (ej_str) (aj_cons (ej_str) (aj_cons (ej_str) (aj_cons (ej_str) (aj_cons (ej_add (ej_v 2) (ej_str)) (aj_cons (ej_str) (aj_nil))))))))))) (sj_cons (sj_ret (ej_lc0 (own := [("_law_k", 4)]) (g := gName 4) rfl sc_kinds.nd (pi_range1 rfl T.b_range pa_d) (src_r1 (ej_v 1)) (blkOk_by (own := [("_law_k", 4)]) (N := ["_law_bag_here", "_law_many", "_law_letters", "_law_some", "_law_k"]) (sc := defScope s_kinds) (by decide +kernel)) (fun _ _ _ _ _ => pg_name (i := 4) sc_kinds.nd rfl (by first | exact Or.inl rfl | exact Or.inr rfl)) (go_name) (by decide) (fun B hB => by obtain ⟨s', H', Cc, cl, fp, hB⟩ := hB; obtain ⟨BX, W', tk', G'⟩ := B; cases hB; exact ej_ixG hr.u16 (ej_v 3) (ej_call (ok_take T) (hr.mono (by decide)) (aj_cons (ej_v 0) (aj_cons (ej_int) (aj_nil))))))) (sj_nil))))
def b_use : MS := sSeq (sPar [4, 5] (aC (eIx (eV 1) (eCall 2 f_take (aC (eV 0) (aC (eF lenP (aC (eV 1) (aN))) (aN))))) (aC (eIf (tB opLt (eF lenP (aC (eV 1) (aN))) (eK (.int 3))) (eK (.int 8)) (eK (.int 4))) (aN)))) (sSeq (sUnp (effT 2 (effsC (effN 6) (effsC (effN 7) (effsN)))) (eIx (eV 2) (eV 4))) (sSeq (sIf (tB opEq (eCall 2 f_take (aC (eV 0) (aC (eK (.int 5)) (aN)))) (eK (.int 0))) (sSeq (sSet 6 (eIx (eV 3) (eCall 2 f_take (aC (eV 0) (aC (eF lenP (aC (eV 3) (aN))) (aN)))))) (sSeq (sSet 7 (eCall 2 f_take (aC (eV 0) (aC (eB opSub (eB opAdd (eV 5) (eK (.int 1))) (eF intP (aC (eIx (eV 6) (eU opNeg (eK (.int 1)))) (aN)))) (aN))))) (sNil))) (sNil)) (sSeq (sRet (eT (aC (eV 6) (aC (eV 4) (aC (eF minP (aC (eV 7) (aC (eB opSub (eV 5) (eF intP (aC (eIx (eV 6) (eU opNeg (eK (.int 1)))) (aN)))) (aN)))) (aN)))))) (sNil))))
def f_use : Fn := runB 8 b_use
theorem ok_use (T : Tx w K mg) : OkF P w K mg base 2 "_law_use" ["_law_bag_here", "_law_names_here", "_law_habits", "_law_kinds_here"] f_use :=
  (ok_fn (k := 1) (N := ["_law_bag_here", "_law_names_here", "_law_habits", "_law_kinds_here", "_law_name", "_law_room", "_law_kind", "_law_offset"]) T.f_use sc_use bi_use fun cdv A outer s H E G hr => sj_cons (sj_par2 4 5 rfl sc_use.nd (aj_cons (ej_ixG hr.u16 (ej_v 1) (ej_call (ok_take T) (hr.mono (by decide)) (aj_cons (ej_v 0) (aj_cons (ej_len T.b_len (aj_cons (ej_v 1) (aj_nil))) (aj_nil))))) (aj_cons (ej_if (tj_lt (ej_len T.b_len (aj_cons (ej_v 1) (aj_nil))) (ej_int)) (ej_int) (ej_int)) (aj_nil)))) (sj_cons (sj_unp (pg_tup rfl (pgs_cons (pg_name (i := 6) sc_use.nd rfl (by first | exact Or.inl rfl | exact Or.inr rfl)) (pgs_cons (pg_name (i := 7) sc_use.nd rfl (by first | exact Or.inl rfl | exact Or.inr rfl)) (pgs_nil)))) (go_tup (gso_cons (go_name) (gso_cons (go_name) (gso_nil)))) (ej_ixG hr.u16 (ej_v 2) (ej_v 4))) (sj_cons (sj_if (tj_eq hr.units (ej_call (ok_take T) (hr.mono (by decide)) (aj_cons (ej_v 0) (aj_cons (ej_int) (aj_nil)))) (ej_int)) (sj_cons (sj_set 6 sc_use.nd (ej_ixG hr.u16 (ej_v 3) (ej_call (ok_take T) (hr.mono (by decide)) (aj_cons (ej_v 0) (aj_cons (ej_len T.b_len (aj_cons (ej_v 3) (aj_nil))) (aj_nil)))))) (sj_cons (sj_set 7 sc_use.nd (ej_call (ok_take T) (hr.mono (by decide)) (aj_cons (ej_v 0) (aj_cons (ej_sub (ej_add (ej_v 5) (ej_int)) (ej_intC T.b_int (aj_cons (ej_ixG hr.u16 (ej_v 6) (ej_neg (ej_int))) (aj_nil)))) (aj_nil))))) (sj_nil))) (sj_nil)) (sj_cons (sj_ret (ej_tup (aj_cons (ej_v 6) (aj_cons (ej_v 4) (aj_cons (ej_min rfl T.b_min (aj_cons (ej_v 7) (aj_cons (ej_sub (ej_v 5) (ej_intC T.b_int (aj_cons (ej_ixG hr.u16 (ej_v 6) (ej_neg (ej_int))) (aj_nil)))) (aj_nil)))) (aj_nil)))))) (sj_nil)))))
def b_step : MS := sSeq (sPar [6, 7] (aC (eCall 2 f_take (aC (eV 0) (aC (eK (.int 16)) (aN)))) (aC (eIf (tB opLt (eF lenP (aC (eV 1) (aN))) (eK (.int 3))) (eK (.int 8)) (eK (.int 4))) (aN)))) (sSeq (sUnp (effT 3 (effsC (effN 8) (effsC (effN 9) (effsC (effN 10) (effsN))))) (eCall 4 f_use (aC (eV 0) (aC (eV 1) (aC (eV 2) (aC (eV 3) (aN))))))) (sSeq (sIf (tB opLt (eV 6) (eK (.int 6))) (sSeq (sRet (eT (aC (eK (.str "read")) (aC (eV 5) (aC (eV 8) (aC (eV 9) (aC (eV 10) (aN)))))))) (sNil)) (sNil)) (sSeq (sIf (tOr (tB opLt (eV 6) (eK (.int 11))) (tAnd (tB opEq (eV 6) (eK (.int 15))) (tB opEq (eV 4) (eL (aN))))) (sSeq (sSet 11 (eIx (eL (aC (eB opSub (eCall 2 f_take (aC (eV 0) (aC (eK (.int 9)) (aN)))) (eK (.int 4))) (aC (eB opSub (eB opSub (eB opPow (eK (.int 10)) (eK (.int 40))) (eK (.int 1))) (eCall 2 f_take (aC (eV 0) (aC (eK (.int 2)) (aN))))) (aN)))) (eB opDiv (eCall 2 f_take (aC (eV 0) (aC (eK (.int 8)) (aN)))) (eK (.int 7))))) (sSeq (sIf (tAnd (tB opNe (eV 4) (eL (aN))) (tB opEq (eCall 2 f_take (aC (eV 0) (aC (eK (.int 2)) (aN)))) (eK (.int 0)))) (sSeq (sSet 11 (eIx (eV 4) (eCall 2 f_take (aC (eV 0) (aC (eF lenP (aC (eV 4) (aN))) (aN)))))) (sNil)) (sNil)) (sSeq (sRet (eT (aC (eK (.str "write")) (aC (eV 8) (aC (eV 9) (aC (eV 10) (aC (eV 11) (aN)))))))) (sNil)))) (sNil)) (sSeq (sIf (tB opEq (eV 6) (eK (.int 15))) (sSeq (sRet (eT (aC (eK (.str "tell")) (aC (eIx (eV 4) (eCall 2 f_take (aC (eV 0) (aC (eF lenP (aC (eV 4) (aN))) (aN))))) (aN))))) (sNil)) (sNil)) (sSeq (sUnp (effT 3 (effsC (effN 12) (effsC (effN 13) (effsC (effN 14) (effsN))))) (eCall 4 f_use (aC (eV 0) (aC (eV 1) (aC (eV 2) (aC (eV 3) (aN))))))) (sSeq (sSet 15 (eIx (eL (aC (eF intP (aC (eIx (eV 8) (eU opNeg (eK (.int 1)))) (aN))) (aC (eF intP (aC (eIx (eV 8) (eU opNeg (eK (.int 1)))) (aN))) (aC (eF intP (aC (eIx (eV 12) (eU opNeg (eK (.int 1)))) (aN))) (aC (eK (.int 1)) (aC (eB opAdd (eK (.int 1)) (eCall 2 f_take (aC (eV 0) (aC (eK (.int 8)) (aN))))) (aN))))))) (eCall 2 f_take (aC (eV 0) (aC (eK (.int 5)) (aN)))))) (sSeq (sSet 15 (eF minP (aC (eV 15) (aC (eB opSub (eV 7) (eF maxP (aC (eV 10) (aC (eV 14) (aN))))) (aN))))) (sSeq (sIf (tB opEq (eV 6) (eK (.int 14))) (sSeq (sRet (eT (aC (eK (.str "blank")) (aC (eV 15) (aC (eV 9) (aC (eV 10) (aN))))))) (sNil)) (sNil)) (sSeq (sRet (eT (aC (eK (.str "copy")) (aC (eV 15) (aC (eV 9) (aC (eV 10) (aC (eV 13) (aC (eV 14) (aN))))))))) (sNil))))))))))
def f_step : Fn := runB 16 b_step
theorem ok_step (T : Tx w K mg) : OkF P w K mg base 3 "_law_step" ["_law_bag_here", "_law_names_here", "_law_habits", "_law_kinds_here", "_law_values", "_law_fresh"] f_step :=
  (ok_fn (k := 2) (N := ["_law_bag_here", "_law_names_here", "_law_habits", "_law_kinds_here", "_law_values", "_law_fresh", "_law_way", "_law_room", "_law_kind", "_law_name", "_law_offset", "_law_value", "_law_other", "_law_source", "_law_begin", "_law_many"]) T.f_step sc_step bi_step fun cdv A outer s H E G hr => sj_cons (sj_par2 6 7 rfl sc_step.nd (aj_cons (ej_call (ok_take T) (hr.mono (by decide)) (aj_cons (ej_v 0) (aj_cons (ej_int) (aj_nil)))) (aj_cons (ej_if (tj_lt (ej_len T.b_len (aj_cons (ej_v 1) (aj_nil))) (ej_int)) (ej_int) (ej_int)) (aj_nil)))) (sj_cons (sj_unp (pg_tup rfl (pgs_cons (pg_name (i := 8) sc_step.nd rfl (by first | exact Or.inl rfl | exact Or.inr rfl)) (pgs_cons (pg_name (i := 9) sc_step.nd rfl (by first | exact Or.inl rfl | exact Or.inr rfl)) (pgs_cons (pg_name (i := 10) sc_step.nd rfl (by first | exact Or.inl rfl | exact Or.inr rfl)) (pgs_nil))))) (go_tup (gso_cons (go_name) (gso_cons (go_name) (gso_cons (go_name) (gso_nil))))) (ej_call (ok_use T) (hr.mono (by decide)) (aj_cons (ej_v 0) (aj_cons (ej_v 1) (aj_cons (ej_v 2) (aj_cons (ej_v 3) (aj_nil))))))) (sj_cons (sj_if (tj_lt (ej_v 6) (ej_int)) (sj_cons (sj_ret (ej_tup (aj_cons (ej_str) (aj_cons (ej_v 5) (aj_cons (ej_v 8) (aj_cons (ej_v 9) (aj_cons (ej_v 10) (aj_nil)))))))) (sj_nil)) (sj_nil)) (sj_cons (sj_if (tj_w (wj_or (tj_lt (ej_v 6) (ej_int)) (wj_or1 (tj_w (wj_and (tj_eq hr.units (ej_v 6) (ej_int)) (wj_and1 (tj_eq hr.units (ej_v 4) (ej_lst (aj_nil))))))))) (sj_cons (sj_set 11 sc_step.nd (ej_ixG hr.u16 (ej_lst (aj_cons (ej_sub (ej_call (ok_take T) (hr.mono (by decide)) (aj_cons (ej_v 0) (aj_cons (ej_int) (aj_nil)))) (ej_int)) (aj_cons (ej_sub (ej_sub (ej_pow (ej_int) (ej_int)) (ej_int)) (ej_call (ok_take T) (hr.mono (by decide)) (aj_cons (ej_v 0) (aj_cons (ej_int) (aj_nil))))) (aj_nil)))) (ej_fdiv (ej_call (ok_take T) (hr.mono (by decide)) (aj_cons (ej_v 0) (aj_cons (ej_int) (aj_nil)))) (ej_int)))) (sj_cons (sj_if (tj_w (wj_and (tj_ne hr.units (ej_v 4) (ej_lst (aj_nil))) (wj_and1 (tj_eq hr.units (ej_call (ok_take T) (hr.mono (by decide)) (aj_cons (ej_v 0) (aj_cons (ej_int) (aj_nil)))) (ej_int))))) (sj_cons (sj_set 11 sc_step.nd (ej_ixG hr.u16 (ej_v 4) (ej_call (ok_take T) (hr.mono (by decide)) (aj_cons (ej_v 0) (aj_cons (ej_len T.b_len (aj_cons (ej_v 4) (aj_nil))) (aj_nil)))))) (sj_nil)) (sj_nil)) (sj_cons (sj_ret (ej_tup (aj_cons (ej_str) (aj_cons (ej_v 8) (aj_cons (ej_v 9) (aj_cons (ej_v 10) (aj_cons (ej_v 11) (aj_nil)))))))) (sj_nil)))) (sj_nil)) (sj_cons (sj_if (tj_eq hr.units (ej_v 6) (ej_int)) (sj_cons (sj_ret (ej_tup (aj_cons (ej_str) (aj_cons (ej_ixG hr.u16 (ej_v 4) (ej_call (ok_take T) (hr.mono (by decide)) (aj_cons (ej_v 0) (aj_cons (ej_len T.b_len (aj_cons (ej_v 4) (aj_nil))) (aj_nil))))) (aj_nil))))) (sj_nil)) (sj_nil)) (sj_cons (sj_unp (pg_tup rfl (pgs_cons (pg_name (i := 12) sc_step.nd rfl (by first | exact Or.inl rfl | exact Or.inr rfl)) (pgs_cons (pg_name (i := 13) sc_step.nd rfl (by first | exact Or.inl rfl | exact Or.inr rfl)) (pgs_cons (pg_name (i := 14) sc_step.nd rfl (by first | exact Or.inl rfl | exact Or.inr rfl)) (pgs_nil))))) (go_tup (gso_cons (go_name) (gso_cons (go_name) (gso_cons (go_name) (gso_nil))))) (ej_call (ok_use T) (hr.mono (by decide)) (aj_cons (ej_v 0) (aj_cons (ej_v 1) (aj_cons (ej_v 2) (aj_cons (ej_v 3) (aj_nil))))))) (sj_cons (sj_set 15 sc_step.nd (ej_ixG hr.u16 (ej_lst (aj_cons (ej_intC T.b_int (aj_cons (ej_ixG hr.u16 (ej_v 8) (ej_neg (ej_int))) (aj_nil))) (aj_cons (ej_intC T.b_int (aj_cons (ej_ixG hr.u16 (ej_v 8) (ej_neg (ej_int))) (aj_nil))) (aj_cons (ej_intC T.b_int (aj_cons (ej_ixG hr.u16 (ej_v 12) (ej_neg (ej_int))) (aj_nil))) (aj_cons (ej_int) (aj_cons (ej_add (ej_int) (ej_call (ok_take T) (hr.mono (by decide)) (aj_cons (ej_v 0) (aj_cons (ej_int) (aj_nil))))) (aj_nil))))))) (ej_call (ok_take T) (hr.mono (by decide)) (aj_cons (ej_v 0) (aj_cons (ej_int) (aj_nil)))))) (sj_cons (sj_set 15 sc_step.nd (ej_min rfl T.b_min (aj_cons (ej_v 15) (aj_cons (ej_sub (ej_v 7) (ej_max rfl T.b_max (aj_cons (ej_v 10) (aj_cons (ej_v 14) (aj_nil))))) (aj_nil))))) (sj_cons (sj_if (tj_eq hr.units (ej_v 6) (ej_int)) (sj_cons (sj_ret (ej_tup (aj_cons (ej_str) (aj_cons (ej_v 15) (aj_cons (ej_v 9) (aj_cons (ej_v 10) (aj_nil))))))) (sj_nil)) (sj_nil)) (sj_cons (sj_ret (ej_tup (aj_cons (ej_str) (aj_cons (ej_v 15) (aj_cons (ej_v 9) (aj_cons (ej_v 10) (aj_cons (ej_v 13) (aj_cons (ej_v 14) (aj_nil))))))))) (sj_nil)))))))))))
def b_drawn : MS := sSeq (sSet 3 (eF minP (aC (eIx (eL (aC (eK (.int 0)) (aC (eK (.int 0)) (aC (eK (.int 0)) (aC (eK (.int 1)) (aC (eK (.int 1)) (aC (eK (.int 2)) (aN)))))))) (eCall 2 f_take (aC (eV 0) (aC (eK (.int 6)) (aN))))) (aC (eB opSub (eV 2) (eK (.int 1))) (aN))))) (sSeq (sSet 4 (eF minP (aC (eIx (eL (aC (eK (.int 1)) (aC (eK (.int 2)) (aC (eK (.int 2)) (aC (eK (.int 2)) (aC (eK (.int 3)) (aN))))))) (eCall 2 f_take (aC (eV 0) (aC (eK (.int 5)) (aN))))) (aC (eB opSub (eV 2) (eV 3)) (aN))))) (sSeq (sPar [5, 6] (aC (eCall 2 f_names (aC (eV 0) (aC (eB opAdd (eV 4) (eV 3)) (aN)))) (aC (eCall 2 f_kinds (aC (eV 0) (aC (eK (.int 2)) (aN)))) (aN)))) (sSeq (sPar [7, 8, 9, 10] (aC (eDN false) (aC (eLL (aN)) (aC (eLL (aN)) (aC (eLL (aN)) (aN)))))) (sSeq (sFor (iEn (eV 5)) (effT 2 (effsC (effN 11) (effsC (effN 12) (effsN)))) (sSeq (sPut (eV 7) (eV 12) (eT (aC (eIx (eV 6) (eCall 2 f_take (aC (eV 0) (aC (eK (.int 2)) (aN))))) (aC (eB opMul (eCall 2 f_take (aC (eV 0) (aC (eK (.int 3)) (aN)))) (eF intP (aC (eB opGe (eV 11) (eV 3)) (aN)))) (aN))))) (sSeq (sIf (tB opLt (eV 11) (eV 3)) (sSeq (sExpr (eLm fApp (eV 10) (aC (eT (aC (eV 12) (aC (eIx (eIx (eV 7) (eV 12)) (eK (.int 0))) (aN)))) aN))) (sNil)) (sNil)) (sNil)))) (sSeq (sFor (iR1 (eB opAdd (eK (.int 1)) (eCall 2 f_take (aC (eV 0) (aC (eV 1) (aN)))))) (effN 11) (sSeq (sSet 13 (eB opAdd (eB opAdd (eSl (eIx (eV 5) (eK (.int 0))) (oN) (oS (eK (.int 6)))) (eIx (eK (.str "vwxyz")) (eB opMod (eV 11) (eK (.int 5))))) (eF strP (aC (eB opDiv (eV 11) (eK (.int 5))) (aN))))) (sSeq (sSet 14 (eCall 6 f_step (aC (eV 0) (aC (eV 5) (aC (eV 7) (aC (eV 6) (aC (eV 9) (aC (eV 13) (aN))))))))) (sSeq (sIf (tB opEq (eIx (eV 14) (eK (.int 0))) (eK (.str "read"))) (sSeq (sExpr (eLm fApp (eV 9) (aC (eV 13) aN))) (sNil)) (sNil)) (sSeq (sExpr (eLm fApp (eV 8) (aC (eV 14) aN))) (sNil)))))) (sSeq (sRet (eT (aC (eF tupleP (aC (eV 10) (aN))) (aC (eF tupleP (aC (eSl (eV 5) (oS (eV 3)) (oN)) (aN))) (aC (eF tupleP (aC (eV 8) (aN))) (aN)))))) (sNil)))))))
def f_drawn : Fn := runZ 15 b_drawn
theorem okA_drawn (T : Tx w K mg) : OkA P w K mg base 4 "_law_drawn" "_law_drawn" (He.ga K "_law_drawn") s_drawn [.int 4] ["_law_bag_here", "_law_most", "_law_room"] f_drawn :=
  okA_fz (okA_fn (k := 3) (N := ["_law_bag_here", "_law_most", "_law_room", "_law_placed", "_law_many", "_law_names_here", "_law_kinds_here", "_law_habits", "_law_steps", "_law_values", "_law_places", "_law_k", "_law_name", "_law_fresh", "_law_step_here"]) T.f_drawn sc_drawn fun cdv A outer s H E G hr => sj_cons (sj_set 3 sc_drawn.nd (ej_min rfl T.b_min (aj_cons (ej_ixG hr.u16 (ej_lst (aj_cons (ej_int) (aj_cons (ej_int) (aj_cons (ej_int) (aj_cons (ej_int) (aj_cons (ej_int) (aj_cons (ej_int) (aj_nil)))))))) (ej_call (ok_take T) (hr.mono (by decide)) (aj_cons (ej_v 0) (aj_cons (ej_int) (aj_nil))))) (aj_cons (ej_sub (ej_v 2) (ej_int)) (aj_nil))))) (sj_cons (sj_set 4 sc_drawn.nd (ej_min rfl T.b_min (aj_cons (ej_ixG hr.u16 (ej_lst (aj_cons (ej_int) (aj_cons (ej_int) (aj_cons (ej_int) (aj_cons (ej_int) (aj_cons (ej_int) (aj_nil))))))) (ej_call (ok_take T) (hr.mono (by decide)) (aj_cons (ej_v 0) (aj_cons (ej_int) (aj_nil))))) (aj_cons (ej_sub (ej_v 2) (ej_v 3)) (aj_nil))))) (sj_cons (sj_par2 5 6 rfl sc_drawn.nd (aj_cons (ej_call (ok_names T) (hr.mono (by decide)) (aj_cons (ej_v 0) (aj_cons (ej_add (ej_v 4) (ej_v 3)) (aj_nil)))) (aj_cons (ej_call (ok_kinds T) (hr.mono (by decide)) (aj_cons (ej_v 0) (aj_cons (ej_int) (aj_nil)))) (aj_nil)))) (sj_cons (sj_parT4 7 8 9 10 rfl sc_drawn.nd (aj_cons (ej_dnewK) (aj_cons (ej_lstL (aj_nil)) (aj_cons (ej_lstL (aj_nil)) (aj_cons (ej_lstL (aj_nil)) (aj_nil)))))) (sj_cons (sj_for (g := (gTup _ 2 (gCons (gName 11) (gCons (gName 12) (gNil))))) (passes_of rfl) rfl (pi_enumA rfl T.b_enumerate pa_d) (src_enum (ej_v 5)) (pg_tup rfl (pgs_cons (pg_name (i := 11) sc_drawn.nd rfl (by first | exact Or.inl rfl | exact Or.inr rfl)) (pgs_cons (pg_name (i := 12) sc_drawn.nd rfl (by first | exact Or.inl rfl | exact Or.inr rfl)) (pgs_nil)))) (go_tup (gso_cons (go_name) (gso_cons (go_name) (gso_nil)))) (sj_cons (sj_put hr.u16 (ej_tup (aj_cons (ej_ixG hr.u16 (ej_v 6) (ej_call (ok_take T) (hr.mono (by decide)) (aj_cons (ej_v 0) (aj_cons (ej_int) (aj_nil))))) (aj_cons (ej_mul (ej_call (ok_take T) (hr.mono (by decide)) (aj_cons (ej_v 0) (aj_cons (ej_int) (aj_nil)))) (ej_intC T.b_int (aj_cons (ej_ge (ej_v 11) (ej_v 3)) (aj_nil)))) (aj_nil)))) (ej_v 7) (ej_v 12)) (sj_cons (sj_if (tj_lt (ej_v 11) (ej_v 3)) (sj_cons (sj_expr (ej_app (ej_v 10) (ej_tup (aj_cons (ej_v 12) (aj_cons (ej_ixG hr.u16 (ej_ixG hr.u16 (ej_v 7) (ej_v 12)) (ej_int)) (aj_nil)))))) (sj_nil)) (sj_nil)) (sj_nil)))) (sj_cons (sj_for (g := gName 11) (passes_of rfl) rfl (pi_range1 rfl T.b_range pa_d) (src_r1 (ej_add (ej_int) (ej_call (ok_take T) (hr.mono (by decide)) (aj_cons (ej_v 0) (aj_cons (ej_v 1) (aj_nil)))))) (pg_name (i := 11) sc_drawn.nd rfl (by first | exact Or.inl rfl | exact Or.inr rfl)) (go_name) (sj_cons (sj_set 13 sc_drawn.nd (ej_add (ej_add (ej_slice (ej_ixG hr.u16 (ej_v 5) (ej_int)) (oj_none) (oj_some (ej_int))) (ej_ixG hr.u16 (ej_str) (ej_mod (ej_v 11) (ej_int)))) (ej_strC T.b_str (aj_cons (ej_fdiv (ej_v 11) (ej_int)) (aj_nil))))) (sj_cons (sj_set 14 sc_drawn.nd (ej_call (ok_step T) (hr.mono (by decide)) (aj_cons (ej_v 0) (aj_cons (ej_v 5) (aj_cons (ej_v 7) (aj_cons (ej_v 6) (aj_cons (ej_v 9) (aj_cons (ej_v 13) (aj_nil))))))))) (sj_cons (sj_if (tj_eq hr.units (ej_ixG hr.u16 (ej_v 14) (ej_int)) (ej_str)) (sj_cons (sj_expr (ej_app (ej_v 9) (ej_v 13))) (sj_nil)) (sj_nil)) (sj_cons (sj_expr (ej_app (ej_v 8) (ej_v 14))) (sj_nil)))))) (sj_cons (sj_ret (ej_tup (aj_cons (ej_tupleC T.b_tuple (aj_cons (ej_v 10) (aj_nil))) (aj_cons (ej_tupleC T.b_tuple (aj_cons (ej_slice (ej_v 5) (oj_some (ej_v 3)) (oj_none)) (aj_nil))) (aj_cons (ej_tupleC T.b_tuple (aj_cons (ej_v 8) (aj_nil))) (aj_nil)))))) (sj_nil))))))))
theorem form_drawn2 (T : Tx w K mg) : Form P w K mg base 4 (He.ga K "_law_drawn") f_drawn 2 [.int 4] := (okA_drawn T).formD 2 0 (by simp) rfl bi_drawn2 (fun _ => .cons (.int _) (.nil))
theorem form_drawn3 (T : Tx w K mg) : Form P w K mg base 4 (He.ga K "_law_drawn") f_drawn 3 [] := (okA_drawn T).formD 3 1 (by simp) rfl bi_drawn3 (fun _ => .nil)
def b_line : MS := sSeq (sIf (tB opEq (eIx (eV 0) (eK (.int 0))) (eK (.str "read"))) (sSeq (sRet (eSm joinP (eK (.str " ")) (aC (eL (aC (eK (.str "read")) (aC (eIx (eV 0) (eK (.int 1))) (aC (eIx (eV 0) (eK (.int 2))) (aC (eB opAdd (eB opAdd (eIx (eV 0) (eK (.int 3))) (eK (.str "+"))) (eF strQ (aC (eIx (eV 0) (eK (.int 4))) (aN)))) (aN)))))) aN))) (sNil)) (sNil)) (sSeq (sIf (tB opEq (eIx (eV 0) (eK (.int 0))) (eK (.str "write"))) (sSeq (sRet (eSm joinP (eK (.str " ")) (aC (eL (aC (eK (.str "write")) (aC (eIx (eV 0) (eK (.int 1))) (aC (eB opAdd (eB opAdd (eIx (eV 0) (eK (.int 2))) (eK (.str "+"))) (eF strQ (aC (eIx (eV 0) (eK (.int 3))) (aN)))) (aC (eF strQ (aC (eIx (eV 0) (eK (.int 4))) (aN))) (aN)))))) aN))) (sNil)) (sNil)) (sSeq (sIf (tB opEq (eIx (eV 0) (eK (.int 0))) (eK (.str "tell"))) (sSeq (sRet (eB opAdd (eK (.str "tell ")) (eIx (eV 0) (eK (.int 1))))) (sNil)) (sNil)) (sSeq (sSet 1 (eB opAdd (eB opAdd (eIx (eV 0) (eK (.int 2))) (eK (.str "+"))) (eF strQ (aC (eIx (eV 0) (eK (.int 3))) (aN))))) (sSeq (sIf (tB opEq (eIx (eV 0) (eK (.int 0))) (eK (.str "blank"))) (sSeq (sRet (eSm joinP (eK (.str " ")) (aC (eL (aC (eK (.str "blank")) (aC (eF strQ (aC (eIx (eV 0) (eK (.int 1))) (aN))) (aC (eV 1) (aN))))) aN))) (sNil)) (sNil)) (sSeq (sRet (eSm joinP (eK (.str " ")) (aC (eL (aC (eK (.str "copy")) (aC (eF strQ (aC (eIx (eV 0) (eK (.int 1))) (aN))) (aC (eV 1) (aC (eB opAdd (eB opAdd (eIx (eV 0) (eK (.int 4))) (eK (.str "+"))) (eF strQ (aC (eIx (eV 0) (eK (.int 5))) (aN)))) (aN)))))) aN))) (sNil))))))
def f_line : Fn := runB 2 b_line
theorem ok_line (T : Tx w K mg) : OkF P w K mg base 1 "_law_line" ["_law_step_here"] f_line :=
  (ok_fn (k := 0) (N := ["_law_step_here", "_law_target"]) T.f_line sc_line bi_line fun cdv A outer s H E G hr => sj_cons (sj_if (tj_eq hr.units (ej_ixG hr.u16 (ej_v 0) (ej_int)) (ej_str)) (sj_cons (sj_ret (ej_join (ej_str) (ej_lst (aj_cons (ej_str) (aj_cons (ej_ixG hr.u16 (ej_v 0) (ej_int)) (aj_cons (ej_ixG hr.u16 (ej_v 0) (ej_int)) (aj_cons (ej_add (ej_add (ej_ixG hr.u16 (ej_v 0) (ej_int)) (ej_str)) (ej_strQ T.b_str (aj_cons (ej_ixG hr.u16 (ej_v 0) (ej_int)) (aj_nil)))) (aj_nil)))))))) (sj_nil)) (sj_nil)) (sj_cons (sj_if (tj_eq hr.units (ej_ixG hr.u16 (ej_v 0) (ej_int)) (ej_str)) (sj_cons (sj_ret (ej_join (ej_str) (ej_lst (aj_cons (ej_str) (aj_cons (ej_ixG hr.u16 (ej_v 0) (ej_int)) (aj_cons (ej_add (ej_add (ej_ixG hr.u16 (ej_v 0) (ej_int)) (ej_str)) (ej_strQ T.b_str (aj_cons (ej_ixG hr.u16 (ej_v 0) (ej_int)) (aj_nil)))) (aj_cons (ej_strQ T.b_str (aj_cons (ej_ixG hr.u16 (ej_v 0) (ej_int)) (aj_nil))) (aj_nil)))))))) (sj_nil)) (sj_nil)) (sj_cons (sj_if (tj_eq hr.units (ej_ixG hr.u16 (ej_v 0) (ej_int)) (ej_str)) (sj_cons (sj_ret (ej_add (ej_str) (ej_ixG hr.u16 (ej_v 0) (ej_int)))) (sj_nil)) (sj_nil)) (sj_cons (sj_set 1 sc_line.nd (ej_add (ej_add (ej_ixG hr.u16 (ej_v 0) (ej_int)) (ej_str)) (ej_strQ T.b_str (aj_cons (ej_ixG hr.u16 (ej_v 0) (ej_int)) (aj_nil))))) (sj_cons (sj_if (tj_eq hr.units (ej_ixG hr.u16 (ej_v 0) (ej_int)) (ej_str)) (sj_cons (sj_ret (ej_join (ej_str) (ej_lst (aj_cons (ej_str) (aj_cons (ej_strQ T.b_str (aj_cons (ej_ixG hr.u16 (ej_v 0) (ej_int)) (aj_nil))) (aj_cons (ej_v 1) (aj_nil))))))) (sj_nil)) (sj_nil)) (sj_cons (sj_ret (ej_join (ej_str) (ej_lst (aj_cons (ej_str) (aj_cons (ej_strQ T.b_str (aj_cons (ej_ixG hr.u16 (ej_v 0) (ej_int)) (aj_nil))) (aj_cons (ej_v 1) (aj_cons (ej_add (ej_add (ej_ixG hr.u16 (ej_v 0) (ej_int)) (ej_str)) (ej_strQ T.b_str (aj_cons (ej_ixG hr.u16 (ej_v 0) (ej_int)) (aj_nil)))) (aj_nil)))))))) (sj_nil)))))))
def b_note : MS := sSeq (sSet 3 (eB opAdd (eLc (iSeq (eV 0)) (effT 2 (effsC (effN 4) (effsC (effN 5) (effsN)))) tYes (eB opAdd (eB opAdd (eB opAdd (eK (.str "place ")) (eV 4)) (eK (.str " "))) (eV 5)) [4, 5]) (eLc (iSeq (eV 1)) (effN 4) tYes (eB opAdd (eK (.str "pointer ")) (eV 4)) [4]))) (sSeq (sRet (eSm joinP (eK (.str "\n")) (aC (eB opAdd (eV 3) (eLc (iSeq (eV 2)) (effN 6) tYes (eCall 1 f_line (aC (eV 6) (aN))) [6])) aN))) (sNil))
def f_note : Fn := runB 7 b_note
theorem ok_note (T : Tx w K mg) : OkF P w K mg base 2 "_law_note" ["_law_places", "_law_pointers", "_law_steps"] f_note :=
  (ok_fn (k := 1) (N := ["_law_places", "_law_pointers", "_law_steps", "_law_lines", "_law_name", "_law_kind", "_law_step_here"]) T.f_note sc_note bi_note fun cdv A outer s H E G hr => sj_cons (sj_set 3 sc_note.nd (ej_add (ej_lc0 (own := [("_law_name", 4), ("_law_kind", 5)]) (g := (gTup _ 2 (gCons (gName 4) (gCons (gName 5) (gNil))))) rfl sc_note.nd (pi_seq pe_d) (src_seq (ej_v 0)) (blkOk_by (own := [("_law_name", 4), ("_law_kind", 5)]) (N := ["_law_places", "_law_pointers", "_law_steps", "_law_lines", "_law_name", "_law_kind", "_law_step_here"]) (sc := defScope s_note) (by decide +kernel)) (fun _ _ _ _ _ => pg_tup rfl (pgs_cons (pg_name (i := 4) sc_note.nd rfl (by first | exact Or.inl rfl | exact Or.inr rfl)) (pgs_cons (pg_name (i := 5) sc_note.nd rfl (by first | exact Or.inl rfl | exact Or.inr rfl)) (pgs_nil)))) (go_tup (gso_cons (go_name) (gso_cons (go_name) (gso_nil)))) (by decide) (fun B hB => by obtain ⟨s', H', Cc, cl, fp, hB⟩ := hB; obtain ⟨BX, W', tk', G'⟩ := B; cases hB; exact ej_add (ej_add (ej_add (ej_str) (ej_v 4)) (ej_str)) (ej_v 5))) (ej_lc0 (own := [("_law_name", 4)]) (g := gName 4) rfl sc_note.nd (pi_seq pe_d) (src_seq (ej_v 1)) (blkOk_by (own := [("_law_name", 4)]) (N := ["_law_places", "_law_pointers", "_law_steps", "_law_lines", "_law_name", "_law_kind", "_law_step_here"]) (sc := defScope s_note) (by decide +kernel)) (fun _ _ _ _ _ => pg_name (i := 4) sc_note.nd rfl (by first | exact Or.inl rfl | exact Or.inr rfl)) (go_name) (by decide) (fun B hB => by obtain ⟨s', H', Cc, cl, fp, hB⟩ := hB; obtain ⟨BX, W', tk', G'⟩ := B; cases hB; exact ej_add (ej_str) (ej_v 4))))) (sj_cons (sj_ret (ej_join (ej_str) (ej_add (ej_v 3) (ej_lc0 (own := [("_law_step_here", 6)]) (g := gName 6) rfl sc_note.nd (pi_seq pe_d) (src_seq (ej_v 2)) (blkOk_by (own := [("_law_step_here", 6)]) (N := ["_law_places", "_law_pointers", "_law_steps", "_law_lines", "_law_name", "_law_kind", "_law_step_here"]) (sc := defScope s_note) (by decide +kernel)) (fun _ _ _ _ _ => pg_name (i := 6) sc_note.nd rfl (by first | exact Or.inl rfl | exact Or.inr rfl)) (go_name) (by decide) (fun B hB => by obtain ⟨s', H', Cc, cl, fp, hB⟩ := hB; obtain ⟨BX, W', tk', G'⟩ := B; cases hB; exact ej_call (ok_line T) (hr.mono (by decide)) (aj_cons (ej_v 6) (aj_nil))))))) (sj_nil)))
def b_spot_word : MS := sSeq (sRet (eJs [eU fmtP (eV 0), eK (.str "+"), eU fmtP (eV 1)])) (sNil)
def f_spot_word : Fn := runB 2 b_spot_word
theorem ok_spot_word (T : Tx w K mg) : OkF P w K mg base 1 "spot_word" ["name", "offset"] f_spot_word :=
  (ok_fn (k := 0) (N := ["name", "offset"]) T.f_spot_word sc_spot_word bi_spot_word fun cdv A outer s H E G hr => sj_cons (sj_ret (ej_js (Jj.cons (ej_fmt (ej_v 0)) (Jj.cons (ej_str) (Jj.cons (ej_fmt (ej_v 1)) (Jj.nil)))))) (sj_nil))
def b_step_line : MS := sSeq (sSet 1 (eIx (eV 0) (eK (.int 0)))) (sSeq (sIf (tB opEq (eV 1) (eK (.str "read"))) (sSeq (sRet (eJs [eK (.str "read "), eU fmtP (eIx (eV 0) (eK (.int 1))), eK (.str " "), eU fmtP (eIx (eV 0) (eK (.int 2))), eK (.str " "), eU fmtP (eCall 2 f_spot_word (aC (eIx (eV 0) (eK (.int 3))) (aC (eIx (eV 0) (eK (.int 4))) (aN))))])) (sNil)) (sNil)) (sSeq (sIf (tB opEq (eV 1) (eK (.str "write"))) (sSeq (sRet (eJs [eK (.str "write "), eU fmtP (eIx (eV 0) (eK (.int 1))), eK (.str " "), eU fmtP (eCall 2 f_spot_word (aC (eIx (eV 0) (eK (.int 2))) (aC (eIx (eV 0) (eK (.int 3))) (aN)))), eK (.str " "), eU fmtP (eIx (eV 0) (eK (.int 4)))])) (sNil)) (sNil)) (sSeq (sIf (tB opEq (eV 1) (eK (.str "copy"))) (sSeq (sRet (eJs [eK (.str "copy "), eU fmtP (eIx (eV 0) (eK (.int 1))), eK (.str " "), eU fmtP (eCall 2 f_spot_word (aC (eIx (eV 0) (eK (.int 2))) (aC (eIx (eV 0) (eK (.int 3))) (aN)))), eK (.str " "), eU fmtP (eCall 2 f_spot_word (aC (eIx (eV 0) (eK (.int 4))) (aC (eIx (eV 0) (eK (.int 5))) (aN))))])) (sNil)) (sNil)) (sSeq (sIf (tB opEq (eV 1) (eK (.str "blank"))) (sSeq (sRet (eJs [eK (.str "blank "), eU fmtP (eIx (eV 0) (eK (.int 1))), eK (.str " "), eU fmtP (eCall 2 f_spot_word (aC (eIx (eV 0) (eK (.int 2))) (aC (eIx (eV 0) (eK (.int 3))) (aN))))])) (sNil)) (sNil)) (sSeq (sRet (eJs [eK (.str "tell "), eU fmtP (eIx (eV 0) (eK (.int 1)))])) (sNil))))))
def f_step_line : Fn := runB 2 b_step_line
theorem ok_step_line (T : Tx w K mg) : OkF P w K mg base 2 "step_line" ["step"] f_step_line :=
  (ok_fn (k := 1) (N := ["step", "word"]) T.f_step_line sc_step_line bi_step_line fun cdv A outer s H E G hr => sj_cons (sj_set 1 sc_step_line.nd (ej_ixG hr.u16 (ej_v 0) (ej_int))) (sj_cons (sj_if (tj_eq hr.units (ej_v 1) (ej_str)) (sj_cons (sj_ret (ej_js (Jj.cons (ej_str) (Jj.cons (ej_fmt (ej_ixG hr.u16 (ej_v 0) (ej_int))) (Jj.cons (ej_str) (Jj.cons (ej_fmt (ej_ixG hr.u16 (ej_v 0) (ej_int))) (Jj.cons (ej_str) (Jj.cons (ej_fmt (ej_call (ok_spot_word T) (hr.mono (by decide)) (aj_cons (ej_ixG hr.u16 (ej_v 0) (ej_int)) (aj_cons (ej_ixG hr.u16 (ej_v 0) (ej_int)) (aj_nil))))) (Jj.nil))))))))) (sj_nil)) (sj_nil)) (sj_cons (sj_if (tj_eq hr.units (ej_v 1) (ej_str)) (sj_cons (sj_ret (ej_js (Jj.cons (ej_str) (Jj.cons (ej_fmt (ej_ixG hr.u16 (ej_v 0) (ej_int))) (Jj.cons (ej_str) (Jj.cons (ej_fmt (ej_call (ok_spot_word T) (hr.mono (by decide)) (aj_cons (ej_ixG hr.u16 (ej_v 0) (ej_int)) (aj_cons (ej_ixG hr.u16 (ej_v 0) (ej_int)) (aj_nil))))) (Jj.cons (ej_str) (Jj.cons (ej_fmt (ej_ixG hr.u16 (ej_v 0) (ej_int))) (Jj.nil))))))))) (sj_nil)) (sj_nil)) (sj_cons (sj_if (tj_eq hr.units (ej_v 1) (ej_str)) (sj_cons (sj_ret (ej_js (Jj.cons (ej_str) (Jj.cons (ej_fmt (ej_ixG hr.u16 (ej_v 0) (ej_int))) (Jj.cons (ej_str) (Jj.cons (ej_fmt (ej_call (ok_spot_word T) (hr.mono (by decide)) (aj_cons (ej_ixG hr.u16 (ej_v 0) (ej_int)) (aj_cons (ej_ixG hr.u16 (ej_v 0) (ej_int)) (aj_nil))))) (Jj.cons (ej_str) (Jj.cons (ej_fmt (ej_call (ok_spot_word T) (hr.mono (by decide)) (aj_cons (ej_ixG hr.u16 (ej_v 0) (ej_int)) (aj_cons (ej_ixG hr.u16 (ej_v 0) (ej_int)) (aj_nil))))) (Jj.nil))))))))) (sj_nil)) (sj_nil)) (sj_cons (sj_if (tj_eq hr.units (ej_v 1) (ej_str)) (sj_cons (sj_ret (ej_js (Jj.cons (ej_str) (Jj.cons (ej_fmt (ej_ixG hr.u16 (ej_v 0) (ej_int))) (Jj.cons (ej_str) (Jj.cons (ej_fmt (ej_call (ok_spot_word T) (hr.mono (by decide)) (aj_cons (ej_ixG hr.u16 (ej_v 0) (ej_int)) (aj_cons (ej_ixG hr.u16 (ej_v 0) (ej_int)) (aj_nil))))) (Jj.nil))))))) (sj_nil)) (sj_nil)) (sj_cons (sj_ret (ej_js (Jj.cons (ej_str) (Jj.cons (ej_fmt (ej_ixG hr.u16 (ej_v 0) (ej_int))) (Jj.nil))))) (sj_nil)))))))
def b_lines_of : MS := sSeq (sSet 3 (eLcL (iSeq (eV 0)) (effT 2 (effsC (effN 4) (effsC (effN 5) (effsN)))) tYes (eJs [eK (.str "place "), eU fmtP (eV 4), eK (.str " "), eU fmtP (eV 5)]) [4, 5])) (sSeq (sExpr (eExt (eV 3) (eLc (iSeq (eV 1)) (effN 4) tYes (eJs [eK (.str "pointer "), eU fmtP (eV 4)]) [4]))) (sSeq (sExpr (eExt (eV 3) (eLc (iSeq (eV 2)) (effN 6) tYes (eCall 1 f_step_line (aC (eV 6) (aN))) [6]))) (sSeq (sRet (eV 3)) (sNil))))
def f_lines_of : Fn := runZ 7 b_lines_of
theorem ok_lines_of (T : Tx w K mg) : OkF P w K mg base 3 "lines_of" ["places", "pointers", "steps"] f_lines_of :=
  ok_fz (ok_fn (k := 2) (N := ["places", "pointers", "steps", "found", "name", "kind", "step"]) T.f_lines_of sc_lines_of bi_lines_of fun cdv A outer s H E G hr => sj_cons (sj_setLcL0 3 (own := [("name", 4), ("kind", 5)]) (g := (gTup _ 2 (gCons (gName 4) (gCons (gName 5) (gNil))))) rfl sc_lines_of.nd (pi_seq pe_d) (src_seq (ej_v 0)) (blkOk_by (own := [("name", 4), ("kind", 5)]) (N := ["places", "pointers", "steps", "found", "name", "kind", "step"]) (sc := defScope s_lines_of) (by decide +kernel)) (fun _ _ _ _ _ => pg_tup rfl (pgs_cons (pg_name (i := 4) sc_lines_of.nd rfl (by first | exact Or.inl rfl | exact Or.inr rfl)) (pgs_cons (pg_name (i := 5) sc_lines_of.nd rfl (by first | exact Or.inl rfl | exact Or.inr rfl)) (pgs_nil)))) (go_tup (gso_cons (go_name) (gso_cons (go_name) (gso_nil)))) (by decide) (fun B hB => by obtain ⟨s', H', Cc, cl, fp, hB⟩ := hB; obtain ⟨BX, W', tk', G'⟩ := B; cases hB; exact ej_js (Jj.cons (ej_str) (Jj.cons (ej_fmt (ej_v 4)) (Jj.cons (ej_str) (Jj.cons (ej_fmt (ej_v 5)) (Jj.nil))))))) (sj_cons (sj_expr (ej_ext (ej_v 3) (ej_lc0 (own := [("name", 4)]) (g := gName 4) rfl sc_lines_of.nd (pi_seq pe_d) (src_seq (ej_v 1)) (blkOk_by (own := [("name", 4)]) (N := ["places", "pointers", "steps", "found", "name", "kind", "step"]) (sc := defScope s_lines_of) (by decide +kernel)) (fun _ _ _ _ _ => pg_name (i := 4) sc_lines_of.nd rfl (by first | exact Or.inl rfl | exact Or.inr rfl)) (go_name) (by decide) (fun B hB => by obtain ⟨s', H', Cc, cl, fp, hB⟩ := hB; obtain ⟨BX, W', tk', G'⟩ := B; cases hB; exact ej_js (Jj.cons (ej_str) (Jj.cons (ej_fmt (ej_v 4)) (Jj.nil))))))) (sj_cons (sj_expr (ej_ext (ej_v 3) (ej_lc0 (own := [("step", 6)]) (g := gName 6) rfl sc_lines_of.nd (pi_seq pe_d) (src_seq (ej_v 2)) (blkOk_by (own := [("step", 6)]) (N := ["places", "pointers", "steps", "found", "name", "kind", "step"]) (sc := defScope s_lines_of) (by decide +kernel)) (fun _ _ _ _ _ => pg_name (i := 6) sc_lines_of.nd rfl (by first | exact Or.inl rfl | exact Or.inr rfl)) (go_name) (by decide) (fun B hB => by obtain ⟨s', H', Cc, cl, fp, hB⟩ := hB; obtain ⟨BX, W', tk', G'⟩ := B; cases hB; exact ej_call (ok_step_line T) (hr.mono (by decide)) (aj_cons (ej_v 6) (aj_nil)))))) (sj_cons (sj_ret (ej_v 3)) (sj_nil)))))
def b_write_text : MS := sSeq (sRet (eSm joinP (eK (.str "\n")) (aC (eCall 3 f_lines_of (aC (eFld ["Text"] "places" (eV 0)) (aC (eFld ["Text"] "pointers" (eV 0)) (aC (eFld ["Text"] "steps" (eV 0)) (aN))))) aN))) (sNil)
def f_write_text : Fn := runB 1 b_write_text
theorem ok_write_text (T : Tx w K mg) : OkF P w K mg base 4 "write_text" ["text"] f_write_text :=
  (ok_fn (k := 3) (N := ["text"]) T.f_write_text sc_write_text bi_write_text fun cdv A outer s H E G hr => sj_cons (sj_ret (ej_join (ej_str) (ej_call (ok_lines_of T) (hr.mono (by decide)) (aj_cons (ej_fld (List.forall_mem_cons.mpr ⟨⟨T.c_Text, T.na_Text_places⟩, (fun _ h => nomatch h)⟩) (ej_v 0)) (aj_cons (ej_fld (List.forall_mem_cons.mpr ⟨⟨T.c_Text, T.na_Text_pointers⟩, (fun _ h => nomatch h)⟩) (ej_v 0)) (aj_cons (ej_fld (List.forall_mem_cons.mpr ⟨⟨T.c_Text, T.na_Text_steps⟩, (fun _ h => nomatch h)⟩) (ej_v 0)) (aj_nil))))))) (sj_nil))
def b_number_in : MS := sSeq (sSet 1 (eIf (tV (eSm startsP (eV 0) (aC (eK (.str "-")) aN))) (eSl (eV 0) (oS (eK (.int 1))) (oN)) (eV 0))) (sSeq (sIf (tOr (tB opEq (eV 1) (eK (.str ""))) (tOr (tB opGt (eF lenP (aC (eV 1) (aN))) (eK (.int 40))) (tN (tV (eCall 2 f_consists_of (aC (eV 1) (aC (eK (.str "0123456789")) (aN)))))))) (sSeq (sRet (eK .non)) (sNil)) (sNil)) (sSeq (sIf (tAnd (tB opEq (eIx (eV 1) (eK (.int 0))) (eK (.str "0"))) (tB opNe (eV 0) (eK (.str "0")))) (sSeq (sRet (eK .non)) (sNil)) (sNil)) (sSeq (sRet (eF intP (aC (eV 0) (aN)))) (sNil))))
def f_number_in : Fn := runB 2 b_number_in
theorem ok_number_in (T : Tx w K mg) : OkF P w K mg base 2 "number_in" ["word"] f_number_in :=
  (ok_fn (k := 1) (N := ["word", "plain"]) T.f_number_in sc_number_in bi_number_in fun cdv A outer s H E G hr => sj_cons (sj_set 1 sc_number_in.nd (ej_if (tj_v (ej_starts (ej_v 0) (ej_str))) (ej_slice (ej_v 0) (oj_some (ej_int)) (oj_none)) (ej_v 0))) (sj_cons (sj_if (tj_w (wj_or (tj_eq hr.units (ej_v 1) (ej_str)) (wj_or (tj_gt (ej_len T.b_len (aj_cons (ej_v 1) (aj_nil))) (ej_gI T.c_MOST_FIGURES)) (wj_or1 (tj_not (tj_v (ej_call (ok_consists_of T) (hr.mono (by decide)) (aj_cons (ej_v 1) (aj_cons (ej_gS T.c_FIGURES) (aj_nil)))))))))) (sj_cons (sj_ret (ej_non)) (sj_nil)) (sj_nil)) (sj_cons (sj_if (tj_w (wj_and (tj_eq hr.units (ej_ixG hr.u16 (ej_v 1) (ej_int)) (ej_str)) (wj_and1 (tj_ne hr.units (ej_v 0) (ej_str))))) (sj_cons (sj_ret (ej_non)) (sj_nil)) (sj_nil)) (sj_cons (sj_ret (ej_intC T.b_int (aj_cons (ej_v 0) (aj_nil)))) (sj_nil)))))
def b_count_in : MS := sSeq (sRet (eIf (tV (eSm startsP (eV 0) (aC (eK (.str "-")) aN))) (eK .non) (eCall 1 f_number_in (aC (eV 0) (aN))))) (sNil)
def f_count_in : Fn := runB 1 b_count_in
theorem ok_count_in (T : Tx w K mg) : OkF P w K mg base 3 "count_in" ["word"] f_count_in :=
  (ok_fn (k := 2) (N := ["word"]) T.f_count_in sc_count_in bi_count_in fun cdv A outer s H E G hr => sj_cons (sj_ret (ej_if (tj_v (ej_starts (ej_v 0) (ej_str))) (ej_non) (ej_call (ok_number_in T) (hr.mono (by decide)) (aj_cons (ej_v 0) (aj_nil))))) (sj_nil))
def b_spot_in : MS := sSeq (sUnp (effT 3 (effsC (effN 1) (effsC (effN 2) (effsC (effN 3) (effsN))))) (eSm partitionP (eV 0) (aC (eK (.str "+")) aN))) (sSeq (sSet 4 (eCall 1 f_count_in (aC (eV 3) (aN)))) (sSeq (sRet (eIf (tOr (tB opEq (eV 2) (eK (.str ""))) (tB opIsN (eV 4) (eK .non))) (eT (aC (eK .non) (aC (eK .non) (aN)))) (eT (aC (eV 1) (aC (eV 4) (aN)))))) (sNil)))
def f_spot_in : Fn := runB 5 b_spot_in
theorem ok_spot_in (T : Tx w K mg) : OkF P w K mg base 4 "spot_in" ["word"] f_spot_in :=
  (ok_fn (k := 3) (N := ["word", "name", "sign", "rest", "offset"]) T.f_spot_in sc_spot_in bi_spot_in fun cdv A outer s H E G hr => sj_cons (sj_unp (pg_tup rfl (pgs_cons (pg_name (i := 1) sc_spot_in.nd rfl (by first | exact Or.inl rfl | exact Or.inr rfl)) (pgs_cons (pg_name (i := 2) sc_spot_in.nd rfl (by first | exact Or.inl rfl | exact Or.inr rfl)) (pgs_cons (pg_name (i := 3) sc_spot_in.nd rfl (by first | exact Or.inl rfl | exact Or.inr rfl)) (pgs_nil))))) (go_tup (gso_cons (go_name) (gso_cons (go_name) (gso_cons (go_name) (gso_nil))))) (ej_partition (ej_v 0) (ej_str))) (sj_cons (sj_set 4 sc_spot_in.nd (ej_call (ok_count_in T) (hr.mono (by decide)) (aj_cons (ej_v 3) (aj_nil)))) (sj_cons (sj_ret (ej_if (tj_w (wj_or (tj_eq hr.units (ej_v 2) (ej_str)) (wj_or1 (tj_is (ej_v 4) (ej_non))))) (ej_tup (aj_cons (ej_non) (aj_cons (ej_non) (aj_nil)))) (ej_tup (aj_cons (ej_v 1) (aj_cons (ej_v 4) (aj_nil)))))) (sj_nil))))
def b_checked : MS := sSeq (sRet (eIf (tV (eCall 1 f_is_step (aC (eV 0) (aN)))) (eV 0) (eK .non))) (sNil)
def f_checked : Fn := runB 1 b_checked
theorem ok_checked (T : Tx w K mg) : OkF P w K mg base 5 "checked" ["step"] f_checked :=
  (ok_fn (k := 4) (N := ["step"]) T.f_checked sc_checked bi_checked fun cdv A outer s H E G hr => sj_cons (sj_ret (ej_if (tj_v (ej_call (ok_is_step T) (hr.mono (by decide)) (aj_cons (ej_v 0) (aj_nil)))) (ej_v 0) (ej_non))) (sj_nil))
def b_value_in : MS := sSeq (sSet 1 (eCall 1 f_number_in (aC (eV 0) (aN)))) (sSeq (sIf (tAnd (tB opIsN (eV 1) (eK .non)) (tV (eCall 1 f_is_name (aC (eV 0) (aN))))) (sSeq (sRet (eV 0)) (sNil)) (sNil)) (sSeq (sRet (eV 1)) (sNil)))
def f_value_in : Fn := runB 2 b_value_in
theorem ok_value_in (T : Tx w K mg) : OkF P w K mg base 3 "value_in" ["word"] f_value_in :=
  (ok_fn (k := 2) (N := ["word", "number"]) T.f_value_in sc_value_in bi_value_in fun cdv A outer s H E G hr => sj_cons (sj_set 1 sc_value_in.nd (ej_call (ok_number_in T) (hr.mono (by decide)) (aj_cons (ej_v 0) (aj_nil)))) (sj_cons (sj_if (tj_w (wj_and (tj_is (ej_v 1) (ej_non)) (wj_and1 (tj_v (ej_call (ok_is_name T) (hr.mono (by decide)) (aj_cons (ej_v 0) (aj_nil))))))) (sj_cons (sj_ret (ej_v 0)) (sj_nil)) (sj_nil)) (sj_cons (sj_ret (ej_v 1)) (sj_nil))))
def b_step_in : MS := sSeq (sMatch (eV 0) [([.lit "read", .cap 1, .cap 2, .cap 3], sSeq (sUnp (effT 2 (effsC (effN 4) (effsC (effN 5) (effsN)))) (eCall 1 f_spot_in (aC (eV 3) (aN)))) (sSeq (sRet (eCall 1 f_checked (aC (eT (aC (eK (.str "read")) (aC (eV 1) (aC (eV 2) (aC (eV 4) (aC (eV 5) (aN))))))) (aN)))) (sNil))), ([.lit "write", .cap 2, .cap 3, .cap 6], sSeq (sUnp (effT 2 (effsC (effN 4) (effsC (effN 5) (effsN)))) (eCall 1 f_spot_in (aC (eV 3) (aN)))) (sSeq (sRet (eCall 1 f_checked (aC (eT (aC (eK (.str "write")) (aC (eV 2) (aC (eV 4) (aC (eV 5) (aC (eCall 1 f_value_in (aC (eV 6) (aN))) (aN))))))) (aN)))) (sNil))), ([.lit "copy", .cap 7, .cap 3, .cap 8], sSeq (sUnp (effT 2 (effsC (effT 2 (effsC (effN 4) (effsC (effN 5) (effsN)))) (effsC (effT 2 (effsC (effN 9) (effsC (effN 10) (effsN)))) (effsN)))) (eT (aC (eCall 1 f_spot_in (aC (eV 3) (aN))) (aC (eCall 1 f_spot_in (aC (eV 8) (aN))) (aN))))) (sSeq (sRet (eCall 1 f_checked (aC (eT (aC (eK (.str "copy")) (aC (eCall 1 f_count_in (aC (eV 7) (aN))) (aC (eV 4) (aC (eV 5) (aC (eV 9) (aC (eV 10) (aN)))))))) (aN)))) (sNil))), ([.lit "blank", .cap 7, .cap 3], sSeq (sUnp (effT 2 (effsC (effN 4) (effsC (effN 5) (effsN)))) (eCall 1 f_spot_in (aC (eV 3) (aN)))) (sSeq (sRet (eCall 1 f_checked (aC (eT (aC (eK (.str "blank")) (aC (eCall 1 f_count_in (aC (eV 7) (aN))) (aC (eV 4) (aC (eV 5) (aN)))))) (aN)))) (sNil))), ([.lit "tell", .cap 1], sSeq (sRet (eCall 1 f_checked (aC (eT (aC (eK (.str "tell")) (aC (eV 1) (aN)))) (aN)))) (sNil))]) (sSeq (sRet (eK .non)) (sNil))
def f_step_in : Fn := runB 11 b_step_in
theorem ok_step_in (T : Tx w K mg) : OkF P w K mg base 6 "step_in" ["words"] f_step_in :=
  (ok_fn (k := 5) (N := ["words", "x", "kind", "target", "name", "offset", "value", "many", "source", "other", "begin"]) T.f_step_in sc_step_in bi_step_in fun cdv A outer s H E G hr => sj_cons (sj_match rfl sc_step_in.nd (ej_v 0) (CasesJ.cons (PatsJ.cons PatJ.lit (PatsJ.cons (PatJ.cap rfl (by first | exact Or.inl rfl | exact Or.inr rfl) (by first | exact Or.inl rfl | exact Or.inr rfl)) (PatsJ.cons (PatJ.cap rfl (by first | exact Or.inl rfl | exact Or.inr rfl) (by first | exact Or.inl rfl | exact Or.inr rfl)) (PatsJ.cons (PatJ.cap rfl (by first | exact Or.inl rfl | exact Or.inr rfl) (by first | exact Or.inl rfl | exact Or.inr rfl)) (PatsJ.nil))))) rfl rfl (sj_cons (sj_unp (pg_tup rfl (pgs_cons (pg_name (i := 4) sc_step_in.nd rfl (by first | exact Or.inl rfl | exact Or.inr rfl)) (pgs_cons (pg_name (i := 5) sc_step_in.nd rfl (by first | exact Or.inl rfl | exact Or.inr rfl)) (pgs_nil)))) (go_tup (gso_cons (go_name) (gso_cons (go_name) (gso_nil)))) (ej_call (ok_spot_in T) (hr.mono (by decide)) (aj_cons (ej_v 3) (aj_nil)))) (sj_cons (sj_ret (ej_call (ok_checked T) (hr.mono (by decide)) (aj_cons (ej_tup (aj_cons (ej_str) (aj_cons (ej_v 1) (aj_cons (ej_v 2) (aj_cons (ej_v 4) (aj_cons (ej_v 5) (aj_nil))))))) (aj_nil)))) (sj_nil))) (CasesJ.cons (PatsJ.cons PatJ.lit (PatsJ.cons (PatJ.cap rfl (by first | exact Or.inl rfl | exact Or.inr rfl) (by first | exact Or.inl rfl | exact Or.inr rfl)) (PatsJ.cons (PatJ.cap rfl (by first | exact Or.inl rfl | exact Or.inr rfl) (by first | exact Or.inl rfl | exact Or.inr rfl)) (PatsJ.cons (PatJ.cap rfl (by first | exact Or.inl rfl | exact Or.inr rfl) (by first | exact Or.inl rfl | exact Or.inr rfl)) (PatsJ.nil))))) rfl rfl (sj_cons (sj_unp (pg_tup rfl (pgs_cons (pg_name (i := 4) sc_step_in.nd rfl (by first | exact Or.inl rfl | exact Or.inr rfl)) (pgs_cons (pg_name (i := 5) sc_step_in.nd rfl (by first | exact Or.inl rfl | exact Or.inr rfl)) (pgs_nil)))) (go_tup (gso_cons (go_name) (gso_cons (go_name) (gso_nil)))) (ej_call (ok_spot_in T) (hr.mono (by decide)) (aj_cons (ej_v 3) (aj_nil)))) (sj_cons (sj_ret (ej_call (ok_checked T) (hr.mono (by decide)) (aj_cons (ej_tup (aj_cons (ej_str) (aj_cons (ej_v 2) (aj_cons (ej_v 4) (aj_cons (ej_v 5) (aj_cons (ej_call (ok_value_in T) (hr.mono (by decide)) (aj_cons (ej_v 6) (aj_nil))) (aj_nil))))))) (aj_nil)))) (sj_nil))) (CasesJ.cons (PatsJ.cons PatJ.lit (PatsJ.cons (PatJ.cap rfl (by first | exact Or.inl rfl | exact Or.inr rfl) (by first | exact Or.inl rfl | exact Or.inr rfl)) (PatsJ.cons (PatJ.cap rfl (by first | exact Or.inl rfl | exact Or.inr rfl) (by first | exact Or.inl rfl | exact Or.inr rfl)) (PatsJ.cons (PatJ.cap rfl (by first | exact Or.inl rfl | exact Or.inr rfl) (by first | exact Or.inl rfl | exact Or.inr rfl)) (PatsJ.nil))))) rfl rfl (sj_cons (sj_unp (pg_tup rfl (pgs_cons (pg_tup rfl (pgs_cons (pg_name (i := 4) sc_step_in.nd rfl (by first | exact Or.inl rfl | exact Or.inr rfl)) (pgs_cons (pg_name (i := 5) sc_step_in.nd rfl (by first | exact Or.inl rfl | exact Or.inr rfl)) (pgs_nil)))) (pgs_cons (pg_tup rfl (pgs_cons (pg_name (i := 9) sc_step_in.nd rfl (by first | exact Or.inl rfl | exact Or.inr rfl)) (pgs_cons (pg_name (i := 10) sc_step_in.nd rfl (by first | exact Or.inl rfl | exact Or.inr rfl)) (pgs_nil)))) (pgs_nil)))) (go_tup (gso_cons (go_tup (gso_cons (go_name) (gso_cons (go_name) (gso_nil)))) (gso_cons (go_tup (gso_cons (go_name) (gso_cons (go_name) (gso_nil)))) (gso_nil)))) (ej_tup (aj_cons (ej_call (ok_spot_in T) (hr.mono (by decide)) (aj_cons (ej_v 3) (aj_nil))) (aj_cons (ej_call (ok_spot_in T) (hr.mono (by decide)) (aj_cons (ej_v 8) (aj_nil))) (aj_nil))))) (sj_cons (sj_ret (ej_call (ok_checked T) (hr.mono (by decide)) (aj_cons (ej_tup (aj_cons (ej_str) (aj_cons (ej_call (ok_count_in T) (hr.mono (by decide)) (aj_cons (ej_v 7) (aj_nil))) (aj_cons (ej_v 4) (aj_cons (ej_v 5) (aj_cons (ej_v 9) (aj_cons (ej_v 10) (aj_nil)))))))) (aj_nil)))) (sj_nil))) (CasesJ.cons (PatsJ.cons PatJ.lit (PatsJ.cons (PatJ.cap rfl (by first | exact Or.inl rfl | exact Or.inr rfl) (by first | exact Or.inl rfl | exact Or.inr rfl)) (PatsJ.cons (PatJ.cap rfl (by first | exact Or.inl rfl | exact Or.inr rfl) (by first | exact Or.inl rfl | exact Or.inr rfl)) (PatsJ.nil)))) rfl rfl (sj_cons (sj_unp (pg_tup rfl (pgs_cons (pg_name (i := 4) sc_step_in.nd rfl (by first | exact Or.inl rfl | exact Or.inr rfl)) (pgs_cons (pg_name (i := 5) sc_step_in.nd rfl (by first | exact Or.inl rfl | exact Or.inr rfl)) (pgs_nil)))) (go_tup (gso_cons (go_name) (gso_cons (go_name) (gso_nil)))) (ej_call (ok_spot_in T) (hr.mono (by decide)) (aj_cons (ej_v 3) (aj_nil)))) (sj_cons (sj_ret (ej_call (ok_checked T) (hr.mono (by decide)) (aj_cons (ej_tup (aj_cons (ej_str) (aj_cons (ej_call (ok_count_in T) (hr.mono (by decide)) (aj_cons (ej_v 7) (aj_nil))) (aj_cons (ej_v 4) (aj_cons (ej_v 5) (aj_nil)))))) (aj_nil)))) (sj_nil))) (CasesJ.cons (PatsJ.cons PatJ.lit (PatsJ.cons (PatJ.cap rfl (by first | exact Or.inl rfl | exact Or.inr rfl) (by first | exact Or.inl rfl | exact Or.inr rfl)) (PatsJ.nil))) rfl rfl (sj_cons (sj_ret (ej_call (ok_checked T) (hr.mono (by decide)) (aj_cons (ej_tup (aj_cons (ej_str) (aj_cons (ej_v 1) (aj_nil)))) (aj_nil)))) (sj_nil)) (CasesJ.nil))))))) (sj_cons (sj_ret (ej_non)) (sj_nil)))
def b_entry_in : MS := sSeq (sSet 1 (eSm splitP (eV 0) (aC (eK (.str " ")) aN))) (sSeq (sIf (tB opEq (eIx (eV 1) (eK (.int 0))) (eK (.str "place"))) (sSeq (sIf (tAnd (tB opEq (eF lenP (aC (eV 1) (aN))) (eK (.int 3))) (tAnd (tV (eCall 1 f_is_name (aC (eIx (eV 1) (eK (.int 1))) (aN)))) (tV (eCall 1 f_is_kind (aC (eIx (eV 1) (eK (.int 2))) (aN)))))) (sSeq (sRet (eT (aC (eK (.int 0)) (aC (eT (aC (eIx (eV 1) (eK (.int 1))) (aC (eIx (eV 1) (eK (.int 2))) (aN)))) (aN))))) (sNil)) (sNil)) (sSeq (sRet (eK .non)) (sNil))) (sNil)) (sSeq (sIf (tB opEq (eIx (eV 1) (eK (.int 0))) (eK (.str "pointer"))) (sSeq (sRet (eIf (tAnd (tB opEq (eF lenP (aC (eV 1) (aN))) (eK (.int 2))) (tV (eCall 1 f_is_name (aC (eIx (eV 1) (eK (.int 1))) (aN))))) (eT (aC (eK (.int 1)) (aC (eIx (eV 1) (eK (.int 1))) (aN)))) (eK .non))) (sNil)) (sNil)) (sSeq (sSet 2 (eCall 1 f_step_in (aC (eV 1) (aN)))) (sSeq (sRet (eIf (tB opIsN (eV 2) (eK .non)) (eK .non) (eT (aC (eK (.int 2)) (aC (eV 2) (aN)))))) (sNil)))))
def f_entry_in : Fn := runB 3 b_entry_in
theorem ok_entry_in (T : Tx w K mg) : OkF P w K mg base 7 "entry_in" ["line"] f_entry_in :=
  (ok_fn (k := 6) (N := ["line", "words", "step"]) T.f_entry_in sc_entry_in bi_entry_in fun cdv A outer s H E G hr => sj_cons (sj_set 1 sc_entry_in.nd (ej_split (ej_v 0) (ej_str))) (sj_cons (sj_if (tj_eq hr.units (ej_ixG hr.u16 (ej_v 1) (ej_int)) (ej_str)) (sj_cons (sj_if (tj_w (wj_and (tj_eq hr.units (ej_len T.b_len (aj_cons (ej_v 1) (aj_nil))) (ej_int)) (wj_and (tj_v (ej_call (ok_is_name T) (hr.mono (by decide)) (aj_cons (ej_ixG hr.u16 (ej_v 1) (ej_int)) (aj_nil)))) (wj_and1 (tj_v (ej_call (ok_is_kind T) (hr.mono (by decide)) (aj_cons (ej_ixG hr.u16 (ej_v 1) (ej_int)) (aj_nil)))))))) (sj_cons (sj_ret (ej_tup (aj_cons (ej_int) (aj_cons (ej_tup (aj_cons (ej_ixG hr.u16 (ej_v 1) (ej_int)) (aj_cons (ej_ixG hr.u16 (ej_v 1) (ej_int)) (aj_nil)))) (aj_nil))))) (sj_nil)) (sj_nil)) (sj_cons (sj_ret (ej_non)) (sj_nil))) (sj_nil)) (sj_cons (sj_if (tj_eq hr.units (ej_ixG hr.u16 (ej_v 1) (ej_int)) (ej_str)) (sj_cons (sj_ret (ej_if (tj_w (wj_and (tj_eq hr.units (ej_len T.b_len (aj_cons (ej_v 1) (aj_nil))) (ej_int)) (wj_and1 (tj_v (ej_call (ok_is_name T) (hr.mono (by decide)) (aj_cons (ej_ixG hr.u16 (ej_v 1) (ej_int)) (aj_nil))))))) (ej_tup (aj_cons (ej_int) (aj_cons (ej_ixG hr.u16 (ej_v 1) (ej_int)) (aj_nil)))) (ej_non))) (sj_nil)) (sj_nil)) (sj_cons (sj_set 2 sc_entry_in.nd (ej_call (ok_step_in T) (hr.mono (by decide)) (aj_cons (ej_v 1) (aj_nil)))) (sj_cons (sj_ret (ej_if (tj_is (ej_v 2) (ej_non)) (ej_non) (ej_tup (aj_cons (ej_int) (aj_cons (ej_v 2) (aj_nil)))))) (sj_nil))))))
def b_Text_read : MS := sSeq (sIf (tN (tV (eF isiP (aC (eV 1) (aC (eK (.ty "str")) (aN)))))) (sSeq (sNo) (sNil)) (sNil)) (sSeq (sPar [2, 3] (aC (eLL (aC (eLL (aN)) (aC (eLL (aN)) (aC (eLL (aN)) (aN))))) (aC (eK (.int 0)) (aN)))) (sSeq (sSet 4 (eIf (tB opNe (eV 1) (eK (.str ""))) (eSm splitP (eV 1) (aC (eK (.str "\n")) aN)) (eL (aN)))) (sSeq (sSet 5 (eFz (eMakeL "Text" 0 [.tup [], .tup [], .tup []] f_Text_init 0 (aN)))) (sSeq (sFor (iEn (eV 4)) (effT 2 (effsC (effN 6) (effsC (effN 7) (effsN)))) (sSeq (sSet 8 (eCall 1 f_entry_in (aC (eV 7) (aN)))) (sSeq (sIf (tOr (tB opIsN (eV 8) (eK .non)) (tB opLt (eIx (eV 8) (eK (.int 0))) (eV 3))) (sSeq (sNo) (sNil)) (sNil)) (sSeq (sSet 3 (eIx (eV 8) (eK (.int 0)))) (sSeq (sExpr (eLm fApp (eIx (eV 2) (eV 3)) (aC (eIx (eV 8) (eK (.int 1))) aN))) (sSeq (sTryN (sSeq (sSet 5 (eFz (eMakeL "Text" 3 [] f_Text_init 0 (aC (eF tupleP (aC (eIx (eV 2) (eK (.int 0))) (aN))) (aC (eF tupleP (aC (eIx (eV 2) (eK (.int 1))) (aN))) (aC (eF tupleP (aC (eIx (eV 2) (eK (.int 2))) (aN))) (aN))))))) (sNil))) (sNil))))))) (sSeq (sRet (eV 5)) (sNil))))))
def f_Text_read : Fn := runZ 10 b_Text_read
theorem okA_Text_read (T : Tx w K mg) : OkA P w K mg base 9 "read" "Text.read" (He5.wf K (He.ga K "Text") "classmethod" "read") s_Text_read [] ["cls", "note"] f_Text_read :=
  okA_fz (okA_fn (k := 8) (N := ["cls", "note", "parts", "phase", "lines", "text", "index", "line", "entry", "e"]) T.f_Text_read sc_Text_read fun cdv A outer s H E G hr => sj_cons (sj_if (tj_not (tj_v (ej_isi T.b_isinstance (aj_cons (ej_v 1) (aj_cons (ej_ty T.b_str) (aj_nil)))))) (sj_cons (sj_no) (sj_nil)) (sj_nil)) (sj_cons (sj_par2 2 3 rfl sc_Text_read.nd (aj_cons (ej_lstL (aj_cons (ej_lstL (aj_nil)) (aj_cons (ej_lstL (aj_nil)) (aj_cons (ej_lstL (aj_nil)) (aj_nil))))) (aj_cons (ej_int) (aj_nil)))) (sj_cons (sj_set 4 sc_Text_read.nd (ej_if (tj_ne hr.units (ej_v 1) (ej_str)) (ej_split (ej_v 1) (ej_str)) (ej_lst (aj_nil)))) (sj_cons (sj_set 5 sc_Text_read.nd (ej_fz (ej_makeL0 (cn := "Text") 0 T.mk_Text (form_Text_init1 T) (hr.mono (by decide))))) (sj_cons (sj_for (g := (gTup _ 2 (gCons (gName 6) (gCons (gName 7) (gNil))))) (passes_of rfl) rfl (pi_enumA rfl T.b_enumerate pa_d) (src_enum (ej_v 4)) (pg_tup rfl (pgs_cons (pg_name (i := 6) sc_Text_read.nd rfl (by first | exact Or.inl rfl | exact Or.inr rfl)) (pgs_cons (pg_name (i := 7) sc_Text_read.nd rfl (by first | exact Or.inl rfl | exact Or.inr rfl)) (pgs_nil)))) (go_tup (gso_cons (go_name) (gso_cons (go_name) (gso_nil)))) (sj_cons (sj_set 8 sc_Text_read.nd (ej_call (ok_entry_in T) (hr.mono (by decide)) (aj_cons (ej_v 7) (aj_nil)))) (sj_cons (sj_if (tj_w (wj_or (tj_is (ej_v 8) (ej_non)) (wj_or1 (tj_lt (ej_ixG hr.u16 (ej_v 8) (ej_int)) (ej_v 3))))) (sj_cons (sj_no) (sj_nil)) (sj_nil)) (sj_cons (sj_set 3 sc_Text_read.nd (ej_ixG hr.u16 (ej_v 8) (ej_int))) (sj_cons (sj_expr (ej_app (ej_ixG hr.u16 (ej_v 2) (ej_v 3)) (ej_ixG hr.u16 (ej_v 8) (ej_int)))) (sj_cons (sj_tryN (fun _ _ => sj_cons (sj_set 5 sc_Text_read.nd (ej_fz (ej_makeL (cn := "Text") 0 T.mk_Text (form_Text_init4 T) (hr.mono (by decide)) (aj_cons (ej_tupleC T.b_tuple (aj_cons (ej_ixG hr.u16 (ej_v 2) (ej_int)) (aj_nil))) (aj_cons (ej_tupleC T.b_tuple (aj_cons (ej_ixG hr.u16 (ej_v 2) (ej_int)) (aj_nil))) (aj_cons (ej_tupleC T.b_tuple (aj_cons (ej_ixG hr.u16 (ej_v 2) (ej_int)) (aj_nil))) (aj_nil))))))) (sj_nil))) (sj_nil))))))) (sj_cons (sj_ret (ej_v 5)) (sj_nil)))))))
theorem form_Text_read2 (T : Tx w K mg) : Form P w K mg base 9 (He5.wf K (He.ga K "Text") "classmethod" "read") f_Text_read 2 [] := (okA_Text_read T).form bi_Text_read rfl
def b_read_text : MS := sSeq (sRet (eCMeth "Text" 1 [] f_Text_read (eK (.glo "Text")) (aC (eV 0) (aN)))) (sNil)
def f_read_text : Fn := runB 1 b_read_text
theorem ok_read_text (T : Tx w K mg) : OkF P w K mg base 10 "read_text" ["note"] f_read_text :=
  (ok_fn (k := 9) (N := ["note"]) T.f_read_text sc_read_text bi_read_text fun cdv A outer s H E G hr => sj_cons (sj_ret (ej_cmeth T.rd_Text T.cm_Text_read (form_Text_read2 T) (hr.mono (by decide)) (ej_gO T.g_Text) (aj_cons (ej_v 0) (aj_nil)))) (sj_nil))
def b_law : MS := sSeq (sFor (iR1 (eF maxP (aC (eK (.int 2)) (aC (eF minP (aC (eK (.int 8)) (aC (eF lenP (aC (eV 0) (aN))) (aN)))) (aN))))) (effN 1) (sSeq (sSet 2 (eCall 2 f_bag (aC (eV 0) (aC (eV 1) (aN))))) (sSeq (sFor (iR1 (eK (.int 3))) (effN 3) (sSeq (sUnp (effT 3 (effsC (effN 4) (effsC (effN 5) (effsC (effN 6) (effsN))))) (eCallD 2 [.int 4] f_drawn (aC (eV 2) (aC (eK (.int 12)) (aN))))) (sSeq (sSet 7 (eFz (eMake "Text" 3 [] f_Text_init (aC (eV 4) (aC (eV 5) (aC (eV 6) (aN))))))) (sSeq (sSet 8 (eCall 3 f_note (aC (eV 4) (aC (eV 5) (aC (eV 6) (aN)))))) (sSeq (sIf (tOr (tB opNe (eCall 1 f_write_text (aC (eV 7) (aN))) (eV 8)) (tOr (tB opNe (eCall 1 f_write_text (aC (eV 7) (aN))) (eV 8)) (tN (tV (eF isiP (aC (eV 8) (aC (eK (.ty "str")) (aN)))))))) (sSeq (sRet (eK (.bl false))) (sNil)) (sNil)) (sSeq (sSet 9 (eL (aC (eCall 1 f_read_text (aC (eV 8) (aN))) (aC (eCMeth "Text" 1 [] f_Text_read (eK (.glo "Text")) (aC (eV 8) (aN))) (aC (eCall 1 f_read_text (aC (eCall 1 f_write_text (aC (eV 7) (aN))) (aN))) (aN)))))) (sSeq (sIf (tN (tV (eF allP (aC (eLc (iSeq (eV 9)) (effN 11) tYes (eAnd (eEqX "Text" f_Text_eq false (eV 11) (eV 7)) (eB opEq (eFld ["Text"] "steps" (eV 11)) (eV 6))) [11]) (aN))))) (sSeq (sRet (eK (.bl false))) (sNil)) (sNil)) (sSeq (sIf (tN (tV (eF allP (aC (eLc (iSeq (eV 9)) (effN 11) tYes (eB opEq (eT (aC (eFld ["Text"] "places" (eV 11)) (aC (eFld ["Text"] "pointers" (eV 11)) (aN)))) (eT (aC (eV 4) (aC (eV 5) (aN))))) [11]) (aN))))) (sSeq (sRet (eK (.bl false))) (sNil)) (sNil)) (sNil))))))))) (sNil)))) (sSeq (sSet 10 (eFz (eMake "Text" 3 [] f_Text_init (aC (eT (aC (eT (aC (eK (.str "s")) (aC (eK (.str "i1")) (aN)))) (aC (eT (aC (eK (.str "t9")) (aC (eK (.str "int4")) (aN)))) (aN)))) (aC (eT (aC (eK (.str "p")) (aC (eK (.str "q")) (aN)))) (aC (eT (aN)) (aN))))))) (sSeq (sSet 8 (eK (.str "place s i1\nplace t9 int4\npointer p\npointer q"))) (sSeq (sIf (tOr (tB opNe (eCall 1 f_write_text (aC (eV 10) (aN))) (eV 8)) (tEqX "Text" f_Text_eq true (eCall 1 f_read_text (aC (eV 8) (aN))) (eV 10))) (sSeq (sRet (eK (.bl false))) (sNil)) (sNil)) (sSeq (sRet (eAnd (eB opEq (eCall 1 f_write_text (aC (eFz (eMake "Text" 0 [.tup [], .tup [], .tup []] f_Text_init (aN))) (aN))) (eK (.str ""))) (eAnd (eEqX "Text" f_Text_eq false (eCall 1 f_read_text (aC (eK (.str "")) (aN))) (eFz (eMake "Text" 0 [.tup [], .tup [], .tup []] f_Text_init (aN)))) (eEqX "Text" f_Text_eq false (eCMeth "Text" 1 [] f_Text_read (eK (.glo "Text")) (aC (eK (.str "")) (aN))) (eFz (eMake "Text" 0 [.tup [], .tup [], .tup []] f_Text_init (aN))))))) (sNil)))))
def f_law : Fn := runB 12 b_law
theorem ok_law (T : Tx w K mg) : OkF P w K mg base 11 "law" ["_law_script"] f_law :=
  (ok_fn (k := 10) (N := ["_law_script", "_law_k", "_law_bag_here", "_law_turn", "_law_places", "_law_pointers", "_law_steps", "_law_text", "_law_note_here", "_law_told", "_law_two", "_law_one"]) T.f_law sc_law bi_law fun cdv A outer s H E G hr => sj_cons (sj_for (g := gName 1) (passes_of rfl) rfl (pi_range1 rfl T.b_range pa_d) (src_r1 (ej_max rfl T.b_max (aj_cons (ej_int) (aj_cons (ej_min rfl T.b_min (aj_cons (ej_int) (aj_cons (ej_len T.b_len (aj_cons (ej_v 0) (aj_nil))) (aj_nil)))) (aj_nil))))) (pg_name (i := 1) sc_law.nd rfl (by first | exact Or.inl rfl | exact Or.inr rfl)) (go_name) (sj_cons (sj_set 2 sc_law.nd (ej_call (ok_bag T) (hr.mono (by decide)) (aj_cons (ej_v 0) (aj_cons (ej_v 1) (aj_nil))))) (sj_cons (sj_for (g := gName 3) (passes_of rfl) rfl (pi_range1 rfl T.b_range pa_d) (src_r1 (ej_int)) (pg_name (i := 3) sc_law.nd rfl (by first | exact Or.inl rfl | exact Or.inr rfl)) (go_name) (sj_cons (sj_unp (pg_tup rfl (pgs_cons (pg_name (i := 4) sc_law.nd rfl (by first | exact Or.inl rfl | exact Or.inr rfl)) (pgs_cons (pg_name (i := 5) sc_law.nd rfl (by first | exact Or.inl rfl | exact Or.inr rfl)) (pgs_cons (pg_name (i := 6) sc_law.nd rfl (by first | exact Or.inl rfl | exact Or.inr rfl)) (pgs_nil))))) (go_tup (gso_cons (go_name) (gso_cons (go_name) (gso_cons (go_name) (gso_nil))))) (ej_callD (form_drawn2 T) (okA_drawn T (P := P) (base := base)).keep T.g_drawn (hr.mono (by decide)) (aj_cons (ej_v 2) (aj_cons (ej_int) (aj_nil))))) (sj_cons (sj_set 7 sc_law.nd (ej_fz (ej_make T.mk_Text T.g_Text (form_Text_init4 T) (hr.mono (by decide)) (aj_cons (ej_v 4) (aj_cons (ej_v 5) (aj_cons (ej_v 6) (aj_nil))))))) (sj_cons (sj_set 8 sc_law.nd (ej_call (ok_note T) (hr.mono (by decide)) (aj_cons (ej_v 4) (aj_cons (ej_v 5) (aj_cons (ej_v 6) (aj_nil)))))) (sj_cons (sj_if (tj_w (wj_or (tj_ne hr.units (ej_call (ok_write_text T) (hr.mono (by decide)) (aj_cons (ej_v 7) (aj_nil))) (ej_v 8)) (wj_or (tj_ne hr.units (ej_call (ok_write_text T) (hr.mono (by decide)) (aj_cons (ej_v 7) (aj_nil))) (ej_v 8)) (wj_or1 (tj_not (tj_v (ej_isi T.b_isinstance (aj_cons (ej_v 8) (aj_cons (ej_ty T.b_str) (aj_nil)))))))))) (sj_cons (sj_ret (ej_bl)) (sj_nil)) (sj_nil)) (sj_cons (sj_set 9 sc_law.nd (ej_lst (aj_cons (ej_call (ok_read_text T) (hr.mono (by decide)) (aj_cons (ej_v 8) (aj_nil))) (aj_cons (ej_cmeth T.rd_Text T.cm_Text_read (form_Text_read2 T) (hr.mono (by decide)) (ej_gO T.g_Text) (aj_cons (ej_v 8) (aj_nil))) (aj_cons (ej_call (ok_read_text T) (hr.mono (by decide)) (aj_cons (ej_call (ok_write_text T) (hr.mono (by decide)) (aj_cons (ej_v 7) (aj_nil))) (aj_nil))) (aj_nil)))))) (sj_cons (sj_if (tj_not (tj_v (ej_all rfl T.b_all (aj_cons (ej_lc0 (own := [("_law_one", 11)]) (g := gName 11) rfl sc_law.nd (pi_seq pe_d) (src_seq (ej_v 9)) (blkOk_by (own := [("_law_one", 11)]) (N := ["_law_script", "_law_k", "_law_bag_here", "_law_turn", "_law_places", "_law_pointers", "_law_steps", "_law_text", "_law_note_here", "_law_told", "_law_two", "_law_one"]) (sc := defScope s_law) (by decide +kernel)) (fun _ _ _ _ _ => pg_name (i := 11) sc_law.nd rfl (by first | exact Or.inl rfl | exact Or.inr rfl)) (go_name) (by decide) (fun B hB => by obtain ⟨s', H', Cc, cl, fp, hB⟩ := hB; obtain ⟨BX, W', tk', G'⟩ := B; cases hB; exact ej_and (ej_eqX T.eq_Text (form_Text_eq2 T) (hr.mono (by decide)) (ej_v 11) (ej_v 7)) (ej_one (ej_eq hr.units (ej_fld (List.forall_mem_cons.mpr ⟨⟨T.c_Text, T.na_Text_steps⟩, (fun _ h => nomatch h)⟩) (ej_v 11)) (ej_v 6))))) (aj_nil))))) (sj_cons (sj_ret (ej_bl)) (sj_nil)) (sj_nil)) (sj_cons (sj_if (tj_not (tj_v (ej_all rfl T.b_all (aj_cons (ej_lc0 (own := [("_law_one", 11)]) (g := gName 11) rfl sc_law.nd (pi_seq pe_d) (src_seq (ej_v 9)) (blkOk_by (own := [("_law_one", 11)]) (N := ["_law_script", "_law_k", "_law_bag_here", "_law_turn", "_law_places", "_law_pointers", "_law_steps", "_law_text", "_law_note_here", "_law_told", "_law_two", "_law_one"]) (sc := defScope s_law) (by decide +kernel)) (fun _ _ _ _ _ => pg_name (i := 11) sc_law.nd rfl (by first | exact Or.inl rfl | exact Or.inr rfl)) (go_name) (by decide) (fun B hB => by obtain ⟨s', H', Cc, cl, fp, hB⟩ := hB; obtain ⟨BX, W', tk', G'⟩ := B; cases hB; exact ej_eq hr.units (ej_tup (aj_cons (ej_fld (List.forall_mem_cons.mpr ⟨⟨T.c_Text, T.na_Text_places⟩, (fun _ h => nomatch h)⟩) (ej_v 11)) (aj_cons (ej_fld (List.forall_mem_cons.mpr ⟨⟨T.c_Text, T.na_Text_pointers⟩, (fun _ h => nomatch h)⟩) (ej_v 11)) (aj_nil)))) (ej_tup (aj_cons (ej_v 4) (aj_cons (ej_v 5) (aj_nil)))))) (aj_nil))))) (sj_cons (sj_ret (ej_bl)) (sj_nil)) (sj_nil)) (sj_nil))))))))) (sj_nil)))) (sj_cons (sj_set 10 sc_law.nd (ej_fz (ej_make T.mk_Text T.g_Text (form_Text_init4 T) (hr.mono (by decide)) (aj_cons (ej_tup (aj_cons (ej_tup (aj_cons (ej_str) (aj_cons (ej_str) (aj_nil)))) (aj_cons (ej_tup (aj_cons (ej_str) (aj_cons (ej_str) (aj_nil)))) (aj_nil)))) (aj_cons (ej_tup (aj_cons (ej_str) (aj_cons (ej_str) (aj_nil)))) (aj_cons (ej_tup (aj_nil)) (aj_nil))))))) (sj_cons (sj_set 8 sc_law.nd (ej_str)) (sj_cons (sj_if (tj_w (wj_or (tj_ne hr.units (ej_call (ok_write_text T) (hr.mono (by decide)) (aj_cons (ej_v 10) (aj_nil))) (ej_v 8)) (wj_or1 (tj_neX T.eq_Text (form_Text_eq2 T) (hr.mono (by decide)) (ej_call (ok_read_text T) (hr.mono (by decide)) (aj_cons (ej_v 8) (aj_nil))) (ej_v 10))))) (sj_cons (sj_ret (ej_bl)) (sj_nil)) (sj_nil)) (sj_cons (sj_ret (ej_and (ej_eq hr.units (ej_call (ok_write_text T) (hr.mono (by decide)) (aj_cons (ej_fz (ej_make0 T.mk_Text T.g_Text (form_Text_init1 T) (hr.mono (by decide)))) (aj_nil))) (ej_str)) (ej_and (ej_eqX T.eq_Text (form_Text_eq2 T) (hr.mono (by decide)) (ej_call (ok_read_text T) (hr.mono (by decide)) (aj_cons (ej_str) (aj_nil))) (ej_fz (ej_make0 T.mk_Text T.g_Text (form_Text_init1 T) (hr.mono (by decide))))) (ej_one (ej_eqX T.eq_Text (form_Text_eq2 T) (hr.mono (by decide)) (ej_cmeth T.rd_Text T.cm_Text_read (form_Text_read2 T) (hr.mono (by decide)) (ej_gO T.g_Text) (aj_cons (ej_str) (aj_nil))) (ej_fz (ej_make0 T.mk_Text T.g_Text (form_Text_init1 T) (hr.mono (by decide))))))))) (sj_nil))))))
end
end Kw

namespace Z
open PySem PySem.Spec PyProof.Rows L2
/-! ### what a computation ends with -/
/-- E: what is asked of an exception -/
structure Rs.sx {α : Type} (r : Rs α) (E : Xc → Store → Prop) (Q : α → Store → Prop) : Prop where
  out : match r with
    | .ok a S => Q a S
    | .exc x S => E x S
    | .no => False
structure Fl.sx (r : Fl) (F : Xc → Slots → Store → Prop) (N : Slots → Store → Prop) (T : D → Store → Prop) : Prop where
  out : match r with
    | .nx sl S => N sl S
    | .rt d S => T d S
    | .exc x sl S => F x sl S
    | _ => False
abbrev atS (F : Xc → Slots → Store → Prop) (sl : Slots) : Xc → Store → Prop := fun x S => F x sl S
abbrev noE : Xc → Store → Prop := fun _ _ => False
abbrev noF : Xc → Slots → Store → Prop := fun _ _ _ => False
def opt {α : Type} (o : Option α) (Q : α → Prop) : Prop := match o with
  | some a => Q a
  | none => False
section
variable {α β : Type}
@[simp] theorem opt_some {a : α} {Q : α → Prop} : opt (some a) Q = Q a := rfl
@[simp] theorem opt_none {Q : α → Prop} : opt none Q = False := rfl
@[simp] theorem opt_map {o : Option β} {f : β → α} {Q : α → Prop} : opt (o.map f) Q = opt o fun b => Q (f b) := by cases o <;> rfl
end
section
variable {α β : Type} {Q : β → Store → Prop} {sl : Slots} {S : Store} {N : Slots → Store → Prop} {T : D → Store → Prop} {E : Xc → Store → Prop} {F : Xc → Slots → Store → Prop}
theorem px {p q : Prop} (h : p → q) (k : q → p) : p = q := propext ⟨h, k⟩
@[simp] theorem sx_ok {a : α} {Q : α → Store → Prop} : (Rs.ok a S).sx E Q = Q a S := px (fun h => h.out) (fun h => ⟨h⟩)
@[simp] theorem sx_no {Q : α → Store → Prop} : (Rs.no : Rs α).sx E Q = False := px (fun h => h.out) (fun h => ⟨h⟩)
@[simp] theorem sx_exc {x : Xc} {Q : α → Store → Prop} : (Rs.exc x S : Rs α).sx E Q = E x S := px (fun h => h.out) (fun h => ⟨h⟩)
@[simp] theorem sx_bind {r : Rs α} {f : α → Store → Rs β} : (r.bind f).sx E Q = r.sx E fun a S => (f a S).sx E Q := by cases r <;> simp [Rs.bind]
theorem Rs.sx.imp {r : Rs α} {P Q : α → Store → Prop} (h : r.sx E P) (k : ∀ a S, P a S → Q a S) : r.sx E Q := by
  cases r <;> simp_all
theorem Rs.sx.impE {E' : Xc → Store → Prop} {r : Rs α} {P Q : α → Store → Prop} (h : r.sx E P) (k : ∀ a S, P a S → Q a S) (k' : ∀ x S, E x S → E' x S) : r.sx E' Q := by
  cases r <;> simp_all
theorem Rs.sx.ok {r : Rs α} {P : α → Store → Prop} (h : r.sx noE P) : ∃ a S, r = .ok a S ∧ P a S := by
  cases r with
  | ok a S => exact ⟨a, S, rfl, h.out⟩
  | exc _ _ => exact h.out.elim
  | no => exact h.out.elim
theorem Fl.sx.imp {r : Fl} {N' : Slots → Store → Prop} {T' : D → Store → Prop} (h : r.sx F N T) (k : ∀ a S, N a S → N' a S) (t : ∀ a S, T a S → T' a S) : r.sx F N' T' := by
  cases r <;> first | exact ⟨k _ _ h.out⟩ | exact ⟨t _ _ h.out⟩ | exact ⟨h.out⟩
theorem cnd_sx {p : Prop} [Decidable p] {x : Rs α} {Q : α → Store → Prop} : (if p then x else .no).sx E Q = (p ∧ x.sx E Q) := by
  by_cases h : p <;> simp [h]
@[simp] theorem fsx_nx : (Fl.nx sl S).sx F N T = N sl S := px (fun h => h.out) (fun h => ⟨h⟩)
@[simp] theorem fsx_rt {d : D} : (Fl.rt d S).sx F N T = T d S := px (fun h => h.out) (fun h => ⟨h⟩)
@[simp] theorem fsx_exc {x : Xc} : (Fl.exc x sl S).sx F N T = F x sl S := px (fun h => h.out) (fun h => ⟨h⟩)
@[simp] theorem fsx_no : (Fl.no).sx F N T = False := px (fun h => h.out) (fun h => ⟨h⟩)
@[simp] theorem fsx_bk : (Fl.bk sl S).sx F N T = False := px (fun h => h.out) (fun h => ⟨h⟩)
@[simp] theorem fsx_ct : (Fl.ct sl S).sx F N T = False := px (fun h => h.out) (fun h => ⟨h⟩)
theorem cndF_sx {p : Prop} [Decidable p] {x : Fl} : (if p then x else .no).sx F N T = (p ∧ x.sx F N T) := by
  by_cases h : p <;> simp [h]
@[simp] theorem fsx_st {r : Rs α} {f : α → Store → Fl} : (r.st sl f).sx F N T = r.sx (atS F sl) fun a S => (f a S).sx F N T := by cases r <;> simp [Rs.st]
/-! statements -/
@[simp] theorem w_nil : (sNil sl S).sx F N T = N sl S := by unfold sNil; simp
@[simp] theorem w_seq {m1 m2 : MS} : (sSeq m1 m2 sl S).sx F N T = (m1 sl S).sx F (fun sl S => (m2 sl S).sx F N T) T := by
  unfold sSeq
  cases m1 sl S <;> simp
@[simp] theorem w_set {i : Nat} {m : M} : (sSet i m sl S).sx F N T = (m sl S).sx (atS F sl) fun d S1 => N (sl.set i (some d)) S1 := by unfold sSet; simp
@[simp] theorem w_ret {m : M} : (sRet m sl S).sx F N T = (m sl S).sx (atS F sl) T := by unfold sRet; simp
@[simp] theorem w_retN : (sRetN sl S).sx F N T = T (.p .non) S := by unfold sRetN; simp
@[simp] theorem w_expr {m : M} : (sExpr m sl S).sx F N T = (m sl S).sx (atS F sl) fun _ S1 => N sl S1 := by unfold sExpr; simp
theorem if_sx {b : Bool} {x y : Fl} : (if b = true then x else y).sx F N T = if b = true then x.sx F N T else y.sx F N T := by cases b <;> simp
@[simp] theorem w_if {t : MT} {s1 s2 : MS} : (sIf t s1 s2 sl S).sx F N T = (t sl S).sx (atS F sl) fun b S1 => if b = true then (s1 sl S1).sx F N T else (s2 sl S1).sx F N T := by
  unfold sIf; rw [fsx_st]
  congr 1; funext b S1; exact if_sx
@[simp] theorem w_for {ms : MI} {eff : Eff} {mb : MS} : (sFor ms eff mb sl S).sx F N T = (ms sl S).sx (atS F sl) fun its S1 => (loop eff mb its sl S1).sx F N T := by unfold sFor; rw [fsx_st]
@[simp] theorem w_unp {eff : Eff} {m : M} : (sUnp eff m sl S).sx F N T = (m sl S).sx (atS F sl) fun d S1 => match d with
    | .p q => opt (eff q sl) fun sl' => N sl' S1
    | .ref _ => False := by
  unfold sUnp; rw [fsx_st]
  congr 1; funext d S1
  cases d with
  | p q => simp only []; cases eff q sl <;> simp
  | ref n => simp
@[simp] theorem w_par {js : List Nat} {ma : MA} : (sPar js ma sl S).sx F N T = (ma sl S).sx (atS F sl) fun ds S1 => ds.length = js.length ∧ N (setAll sl js ds) S1 := by
  unfold sPar; rw [fsx_st]
  congr 1; funext ds S1
  rw [cndF_sx, fsx_nx]
@[simp] theorem w_put {mo mi me : M} : (sPut mo mi me sl S).sx F N T = (me sl S).sx (atS F sl) fun v S1 => (mo sl S1).sx (atS F sl) fun d S2 => (mi sl S2).sx (atS F sl) fun i S3 => match d with
    | .ref n => opt (putG S3 n i v) fun S4 => N sl S4
    | _ => False := by
  unfold sPut; rw [fsx_st]
  congr 1; funext v S1; rw [fsx_st]
  congr 1; funext d S2; rw [fsx_st]
  congr 1; funext i S3
  cases d with
  | p q => simp
  | ref n => simp only []; cases putG S3 n i v <;> simp
/-! expressions -/
variable {R : D → Store → Prop} {B : Bool → Store → Prop} {A : List D → Store → Prop} {I : List P → Store → Prop} {O : Option Int → Store → Prop}
@[simp] theorem w_v {i : Nat} : (eV i sl S).sx E R = match sl[i]? with | some (some d) => R d S | _ => False := by
  unfold eV
  cases sl[i]? with
  | none => simp
  | some o => cases o <;> simp
@[simp] theorem w_k {p : P} : (eK p sl S).sx E R = R (.p p) S := by unfold eK; simp
@[simp] theorem w_b {f : P → P → Option P} {m1 m2 : M} : (eB f m1 m2 sl S).sx E R = (m1 sl S).sx E fun d1 S1 => (m2 sl S1).sx E fun d2 S2 => (lift2 f d1 d2 S2).sx E R := by unfold eB; simp only [sx_bind]
@[simp] theorem w_lift2 {f : P → P → Option P} {d1 d2 : D} : (lift2 f d1 d2 S).sx E R = opt (view S d1) fun p => opt (view S d2) fun q => opt (f p q) fun r => R (.p r) S := by
  unfold lift2
  cases view S d1 with
  | none => simp
  | some p => cases view S d2 with
    | none => simp
    | some q => simp only [opt_some]; cases f p q <;> simp
@[simp] theorem w_u {f : P → Option P} {m : M} : (eU f m sl S).sx E R = (m sl S).sx E fun d S1 => (lift1 f d S1).sx E R := by unfold eU; simp only [sx_bind]
@[simp] theorem w_lift1 {f : P → Option P} {d : D} : (lift1 f d S).sx E R = opt (view S d) fun p => opt (f p) fun r => R (.p r) S := by
  unfold lift1
  cases view S d with
  | none => simp
  | some p => simp only [opt_some]; cases f p <;> simp
@[simp] theorem w_and {m1 m2 : M} : (eAnd m1 m2 sl S).sx E R = (m1 sl S).sx E fun d S1 => match d with
    | .p (.bl true) => (m2 sl S1).sx E R
    | .p (.bl false) => R (.p (.bl false)) S1
    | _ => False := by
  unfold eAnd; rw [sx_bind]; congr 1; funext d S1
  cases d with
  | ref n => simp
  | p q =>
    cases q <;> first
      | (simp; done)
      | (rename_i b; cases b <;> simp)
@[simp] theorem w_or {m1 m2 : M} : (eOr m1 m2 sl S).sx E R = (m1 sl S).sx E fun d S1 => match d with
    | .p (.bl false) => (m2 sl S1).sx E R
    | .p (.bl true) => R (.p (.bl true)) S1
    | _ => False := by
  unfold eOr; rw [sx_bind]; congr 1; funext d S1
  cases d with
  | ref n => simp
  | p q =>
    cases q <;> first
      | (simp; done)
      | (rename_i b; cases b <;> simp)
@[simp] theorem w_not {m : M} : (eNot m sl S).sx E R = (m sl S).sx E fun d S1 => match d with
    | .p (.bl b) => R (.p (.bl !b)) S1
    | _ => False := by
  unfold eNot; rw [sx_bind]; congr 1; funext d S1
  cases d with
  | ref n => simp
  | p q =>
    cases q <;> first
      | (simp; done)
      | (rename_i b; cases b <;> simp)
theorem ifr_sx {b : Bool} {x y : Rs α} {Q : α → Store → Prop} : (if b = true then x else y).sx E Q = if b = true then x.sx E Q else y.sx E Q := by cases b <;> simp
theorem ifp_sx {p : Prop} [Decidable p] {x y : Rs α} {Q : α → Store → Prop} : (if p then x else y).sx E Q = if p then x.sx E Q else y.sx E Q := by split <;> simp
@[simp] theorem w_ifE {t : MT} {m1 m2 : M} : (eIf t m1 m2 sl S).sx E R = (t sl S).sx E fun b S1 => if b = true then (m1 sl S1).sx E R else (m2 sl S1).sx E R := by
  unfold eIf; rw [sx_bind]; congr 1; funext b S1; exact ifr_sx
@[simp] theorem w_aN : (aN sl S).sx E A = A [] S := by unfold aN; simp
@[simp] theorem w_aC {m : M} {ma : MA} : (aC m ma sl S).sx E A = (m sl S).sx E fun d S1 => (ma sl S1).sx E fun ds S2 => A (d :: ds) S2 := by unfold aC; simp only [sx_bind, sx_ok]
@[simp] theorem w_f {f : List P → Option P} {ma : MA} : (eF f ma sl S).sx E R = (ma sl S).sx E fun ds S1 => opt (views S1 ds) fun ps => opt (f ps) fun r => R (.p r) S1 := by
  unfold eF; rw [sx_bind]; congr 1; funext ds S1
  unfold liftA
  cases views S1 ds with
  | none => simp
  | some ps => simp only [opt_some]; cases f ps <;> simp
@[simp] theorem w_call {n : Nat} {f : Fn} {ma : MA} : (eCall n f ma sl S).sx E R = (ma sl S).sx E fun ds S1 => ds.length = n ∧ (f ds S1).sx E R := by
  unfold eCall; rw [sx_bind]; congr 1; funext ds S1
  exact cnd_sx
@[simp] theorem w_callD {n : Nat} {dfl : List P} {f : Fn} {ma : MA} : (eCallD n dfl f ma sl S).sx E R = (ma sl S).sx E fun ds S1 => ds.length = n ∧ (f (ds ++ dfl.map .p) S1).sx E R := by
  unfold eCallD; rw [sx_bind]; congr 1; funext ds S1
  exact cnd_sx
@[simp] theorem w_asI {d : D} {Q : Int → Store → Prop} : (asI S d).sx E Q = match view S d with | some (.int i) => Q i S | _ => False := by
  unfold asI
  cases view S d with
  | none => simp
  | some q => cases q <;> simp
@[simp] theorem w_ch {f g : Int → Int → Bool} {m1 m2 m3 : M} : (eCh f g m1 m2 m3 sl S).sx E R = (m1 sl S).sx E fun d1 S1 => (m2 sl S1).sx E fun d2 S2 => (asI S2 d1).sx E fun i S2 => (asI S2 d2).sx E fun j S2 =>
    if f i j = true then (m3 sl S2).sx E fun d3 S3 => (asI S3 d3).sx E fun k S3 => R (.p (.bl (g j k))) S3 else R (.p (.bl false)) S2 := by
  unfold eCh; simp only [sx_bind, ifr_sx, sx_ok]
@[simp] theorem w_lst {ma : MA} : (eL ma sl S).sx E R = (ma sl S).sx E fun ds S1 => opt (pures ds) fun ps => ps.length ≤ sizeLine ∧ R (.p (.lst ps)) S1 := by
  unfold eL; rw [sx_bind]; congr 1; funext ds S1
  cases pures ds with
  | none => simp
  | some ps =>
    simp only [opt_some, cnd_sx, sx_ok]
@[simp] theorem w_tup {ma : MA} : (eT ma sl S).sx E R = (ma sl S).sx E fun ds S1 => opt (pures ds) fun ps => ps.length ≤ sizeLine ∧ R (.p (.tup ps)) S1 := by
  unfold eT; rw [sx_bind]; congr 1; funext ds S1
  cases pures ds with
  | none => simp
  | some ps =>
    simp only [opt_some, cnd_sx, sx_ok]
@[simp] theorem w_lstL {ma : MA} : (eLL ma sl S).sx E R = (ma sl S).sx E fun ds S1 => ds.length ≤ sizeLine ∧ R (.ref S1.length) (S1 ++ [.lst ds]) := by
  unfold eLL; rw [sx_bind]; congr 1; funext ds S1
  simp only [cnd_sx, sx_ok]
@[simp] theorem w_dn {t : Bool} : (eDN t sl S).sx E R = R (.ref S.length) (S ++ [.dic t [] []]) := by unfold eDN; simp
@[simp] theorem w_sl {m : M} {lo hi : MO} : (eSl m lo hi sl S).sx E R = (m sl S).sx E fun d S1 => (lo sl S1).sx E fun l S2 => (hi sl S2).sx E fun h S3 => (lift1 (slP l h) d S3).sx E R := by unfold eSl; simp only [sx_bind]
@[simp] theorem w_oN : (oN sl S).sx E O = O none S := by unfold oN; simp
@[simp] theorem w_oS {m : M} : (oS m sl S).sx E O = (m sl S).sx E fun d S1 => (asI S1 d).sx E fun i S1 => O (some i) S1 := by unfold oS; simp only [sx_bind, sx_ok]
@[simp] theorem w_ix {m1 m2 : M} : (eIx m1 m2 sl S).sx E R = (m1 sl S).sx E fun d1 S1 => (m2 sl S1).sx E fun d2 S2 => (ixG d1 d2 S2).sx E R := by unfold eIx; simp only [sx_bind]
@[simp] theorem w_in {neg : Bool} {m1 m2 : M} : (eIn neg m1 m2 sl S).sx E R = (m1 sl S).sx E fun d1 S1 => (m2 sl S1).sx E fun d2 S2 => (inG neg d1 d2 S2).sx E R := by unfold eIn; simp only [sx_bind]
@[simp] theorem w_lc {ms : MI} {eff : Eff} {t : MT} {me : M} {own : List Nat} : (eLc ms eff t me own sl S).sx E R = (ms sl S).sx E fun its S1 => (lcL eff t me own sl its [] S1).sx E fun ps S2 => R (.p (.lst ps)) S2 := by unfold eLc; simp only [sx_bind, sx_ok]
@[simp] theorem w_lm {f : List D → List D → Option (D × List D)} {mo : M} {ma : MA} : (eLm f mo ma sl S).sx E R = (mo sl S).sx E fun d S1 => match d with
    | .ref n => (match S1[n]? with
      | some (.lst _) => (ma sl S1).sx E fun as S2 => match S2[n]? with
        | some (.lst ds) => opt (f ds as) fun q => R q.1 (S2.set n (.lst q.2))
        | _ => False
      | _ => False)
    | _ => False := by
  unfold eLm; rw [sx_bind]; congr 1; funext d S1
  cases d with
  | p q => simp
  | ref n =>
    simp only []
    cases S1[n]? with
    | none => simp
    | some c =>
      cases c <;> first
        | (simp; done)
        | skip
      simp only [sx_bind]
      congr 1; funext as S2
      cases S2[n]? with
      | none => simp
      | some c' =>
        cases c' <;> first
          | (simp; done)
          | skip
        rename_i ds
        simp only []
        cases f ds as with
        | none => simp
        | some q => simp
/-! tests -/
@[simp] theorem w_asB {d : D} : (asB d S).sx E B = match d with | .p (.bl b) => B b S | _ => False := by
  unfold asB
  cases d with
  | ref n => simp
  | p q =>
    cases q <;> first
      | (simp; done)
      | (rename_i b; cases b <;> simp)
@[simp] theorem w_tB {f : P → P → Option P} {m1 m2 : M} : (tB f m1 m2 sl S).sx E B = (eB f m1 m2 sl S).sx E fun d S1 => (asB d S1).sx E B := by unfold tB; rw [sx_bind]
@[simp] theorem w_tIn {neg : Bool} {m1 m2 : M} : (tIn neg m1 m2 sl S).sx E B = (eIn neg m1 m2 sl S).sx E fun d S1 => (asB d S1).sx E B := by unfold tIn; rw [sx_bind]
@[simp] theorem w_tCh {f g : Int → Int → Bool} {m1 m2 m3 : M} : (tCh f g m1 m2 m3 sl S).sx E B = (eCh f g m1 m2 m3 sl S).sx E fun d S1 => (asB d S1).sx E B := by unfold tCh; rw [sx_bind]
@[simp] theorem w_tV {m : M} : (tV m sl S).sx E B = (m sl S).sx E fun d S1 => (tru S1 d).sx E B := by unfold tV; rw [sx_bind]
@[simp] theorem w_tru {d : D} : (tru S d).sx E B = opt (view S d) fun p => opt (truP p) fun b => B b S := by
  unfold tru
  cases view S d with
  | none => simp
  | some p => simp only [opt_some]; cases truP p <;> simp
@[simp] theorem w_tN {t : MT} : (tN t sl S).sx E B = (t sl S).sx E fun b S1 => B (!b) S1 := by unfold tN; simp only [sx_bind, sx_ok]
@[simp] theorem w_tAnd {t1 t2 : MT} : (tAnd t1 t2 sl S).sx E B = (t1 sl S).sx E fun b S1 => if b = true then (t2 sl S1).sx E B else B false S1 := by
  unfold tAnd; simp only [sx_bind, ifr_sx, sx_ok]
@[simp] theorem w_tOr {t1 t2 : MT} : (tOr t1 t2 sl S).sx E B = (t1 sl S).sx E fun b S1 => if b = true then B true S1 else (t2 sl S1).sx E B := by
  unfold tOr; simp only [sx_bind, ifr_sx, sx_ok]
@[simp] theorem w_tYes : (tYes sl S).sx E B = B true S := by unfold tYes; simp
@[simp] theorem w_tTab {tab : Tabl} {m : M} : (tTab tab m sl S).sx E B = (m sl S).sx E fun d S1 => match d with | .p (.str z) => B (tabAt tab z).isSome S1 | _ => False := by
  unfold tTab onStrB; rw [sx_bind]; congr 1; funext d S1
  cases d with
  | ref n => simp
  | p q =>
    cases q <;> first
      | (simp; done)
      | (rename_i b; cases b <;> simp)
@[simp] theorem w_tNTab {tab : Tabl} {m : M} : (tNTab tab m sl S).sx E B = (m sl S).sx E fun d S1 => match d with | .p (.str z) => B (!(tabAt tab z).isSome) S1 | _ => False := by
  unfold tNTab onStrB; rw [sx_bind]; congr 1; funext d S1
  cases d with
  | ref n => simp
  | p q =>
    cases q <;> first
      | (simp; done)
      | (rename_i b; cases b <;> simp)
@[simp] theorem w_tabAt {tab : Tabl} {m : M} : (eTabAt tab m sl S).sx E R = (m sl S).sx E fun d S1 => match d with | .p (.str z) => opt (tabAt tab z) fun e => R (.p e.p) S1 | _ => False := by
  unfold eTabAt onStr; rw [sx_bind]; congr 1; funext d S1
  cases d with
  | ref n => simp
  | p q =>
    cases q <;> first
      | (simp; done)
      | (rename_i z; simp only []; cases tabAt tab z <;> simp)
/-! what is walked -/
@[simp] theorem w_iSeq {m : M} : (iSeq m sl S).sx E I = (m sl S).sx E fun d S1 => match d with
    | .p q => opt (seqOf q) fun its => I its S1
    | .ref _ => False := by
  unfold iSeq; rw [sx_bind]; congr 1; funext d S1
  cases d with
  | p q => simp only []; cases seqOf q <;> simp
  | ref n => simp
@[simp] theorem w_iR1 {m : M} : (iR1 m sl S).sx E I = (m sl S).sx E fun d S1 => (asI S1 d).sx E fun n S1 => (-(2 ^ 62) ≤ n ∧ n < 2 ^ 62) ∧ I (rng 0 n.toNat) S1 := by
  unfold iR1; simp only [sx_bind]
  congr 1; funext d S1; congr 1; funext n S1
  by_cases h : -(2 ^ 62) ≤ n ∧ n < 2 ^ 62
  · rw [if_pos h, sx_ok]; exact propext ⟨fun q => ⟨h, q⟩, fun q => q.2⟩
  · rw [if_neg h, sx_no]; exact propext ⟨fun q => q.elim, fun q => h q.1⟩
@[simp] theorem w_iR2 {m1 m2 : M} : (iR2 m1 m2 sl S).sx E I = (m1 sl S).sx E fun d S1 => (m2 sl S1).sx E fun e S2 => (asI S2 d).sx E fun i S2 => (asI S2 e).sx E fun j S2 => ((-(2 ^ 62) ≤ i ∧ i < 2 ^ 62) ∧ (-(2 ^ 62) ≤ j ∧ j < 2 ^ 62)) ∧ I (rng i (j - i).toNat) S2 := by
  unfold iR2; simp only [sx_bind]
  congr 1; funext d S1; congr 1; funext e S2; congr 1; funext i S2; congr 1; funext j S2
  by_cases h : (-(2 ^ 62) ≤ i ∧ i < 2 ^ 62) ∧ (-(2 ^ 62) ≤ j ∧ j < 2 ^ 62)
  · rw [if_pos h, sx_ok]; exact propext ⟨fun q => ⟨h, q⟩, fun q => q.2⟩
  · rw [if_neg h, sx_no]; exact propext ⟨fun q => q.elim, fun q => h q.1⟩
@[simp] theorem w_iEn {m : M} : (iEn m sl S).sx E I = (m sl S).sx E fun d S1 => match d with
    | .p (.lst ps) => I (enumP ps) S1
    | .p (.tup ps) => I (enumP ps) S1
    | .p (.scr ns) => I (enumP (ns.map .int)) S1
    | _ => False := by
  unfold iEn; rw [sx_bind]; congr 1; funext d S1
  cases d with
  | ref n => simp
  | p q =>
    cases q <;> first
      | (simp; done)
      | (rename_i b; cases b <;> simp)
@[simp] theorem w_iZp {m1 m2 : M} : (iZp m1 m2 sl S).sx E I = (m1 sl S).sx E fun d S1 => (m2 sl S1).sx E fun e S2 => match d, e with
    | .p (.lst ps), .p (.lst qs) => I (zipP ps qs) S2
    | .p (.tup ps), .p (.tup qs) => I (zipP ps qs) S2
    | _, _ => False := by
  unfold iZp; simp only [sx_bind]; congr 1; funext d S1; congr 1; funext e S2
  cases d with
  | ref n => cases e <;> simp
  | p q =>
    cases e with
    | ref n => cases q <;> simp
    | p r => cases q <;> cases r <;> simp
/-! loops -/
theorem loop_sx {eff : Eff} {mb : MS} (J : List P → Slots → Store → Prop) (step : ∀ q qs sl S, J (q :: qs) sl S → ∃ sl1, eff q sl = some sl1 ∧ (mb sl1 S).sx F (J qs) T) (last : ∀ sl S, J [] sl S → N sl S) : ∀ (its : List P) (sl : Slots) (S : Store), J its sl S → (loop eff mb its sl S).sx F N T
  | [], sl, S, h => ⟨last sl S h⟩
  | q :: qs, sl, S, h => by
    obtain ⟨sl1, e, h1⟩ := step q qs sl S h
    simp only [loop, e]
    cases hb : mb sl1 S with
    | nx sl2 S2 => rw [hb] at h1; exact loop_sx J step last qs sl2 S2 h1.out
    | rt d S2 => rw [hb] at h1; exact ⟨h1.out⟩
    | ct sl2 S2 => rw [hb] at h1; exact h1.out.elim
    | bk sl2 S2 => rw [hb] at h1; exact h1.out.elim
    | exc x sl2 S2 => rw [hb] at h1; exact ⟨h1.out⟩
    | no => rw [hb] at h1; exact h1.out.elim
/-- a list is made item by item -/
theorem lc_sx {eff : Eff} {me : M} {own : List Nat} {Q : List P → Store → Prop} (J : List P → List P → Store → Prop) (step : ∀ q qs acc S, J (q :: qs) acc S → acc.length < sizeLine ∧ ∃ sl1, eff q (wipeS sl own) = some sl1 ∧ (me sl1 S).sx noE fun d S1 => ∃ z, d = .p z ∧ J qs (acc ++ [z]) S1) (last : ∀ acc S, J [] acc S → Q acc S) :
    ∀ (its acc : List P) (S : Store), J its acc S → (lcL eff tYes me own sl its acc S).sx E Q
  | [], acc, S, h => ⟨last acc S h⟩
  | q :: qs, acc, S, h => by
    obtain ⟨hl, sl1, e, h1⟩ := step q qs acc S h
    simp only [lcL, e, tYes]
    cases hb : me sl1 S with
    | ok d S2 =>
      rw [hb] at h1
      obtain ⟨z, rfl, h2⟩ := h1.out
      simp only [if_pos hl]
      exact lc_sx J step last qs (acc ++ [z]) S2 h2
    | exc _ _ => rw [hb] at h1; exact h1.out.elim
    | no => rw [hb] at h1; exact h1.out.elim
/-! defs -/
theorem w_runB {n : Nat} {b : MS} {ds : List D} : (runB n b ds S).sx E R = (b (ent n ds) S).sx (fun x _ S => E x S) (fun _ S => R (.p .non) S) R := by
  unfold runB
  cases b (ent n ds) S <;> simp
def pureSt (S : Store) : Prop := ∀ c ∈ S, clCb 0 c = true
theorem clDb_mono {n : Nat} {d : D} (h : clDb 0 d = true) : clDb n d = true := by
  cases d with
  | p _ => rfl
  | ref m => simp [clDb] at h
theorem clCb_mono {n : Nat} {c : Cell} (h : clCb 0 c = true) : clCb n c = true := by
  have key : ∀ ds : List D, ds.all (clDb 0) = true → ds.all (clDb n) = true := fun ds h => List.all_eq_true.mpr fun d hd => clDb_mono (List.all_eq_true.mp h d hd)
  cases c with
  | lst ds => exact key ds h
  | dic _ _ ds => exact key ds h
  | ins _ _ ds => exact key ds h
  | dead => rfl
theorem pureSt.cl {S : Store} (h : pureSt S) (n : Nat) : S.all (clCb n) = true := List.all_eq_true.mpr fun c hc => clCb_mono (h c hc)
/-- a def whose own objects stand still behind it: the store is that of the caller, S1, and what was made, L -/
theorem runZ_by {n : Nat} {b : MS} {ds : List D} (h : ∀ (F : Xc → Slots → Store → Prop) (N : Slots → Store → Prop) (T : D → Store → Prop), (∀ x sl S1 L, S1.length = S.length → pureSt S1 → E x S1 → F x sl (S1 ++ L)) → (∀ sl S1 L, S1.length = S.length → pureSt S1 → R (.p .non) S1 → N sl (S1 ++ L)) → (∀ d S1 L p, S1.length = S.length → pureSt S1 → fzD (S1 ++ L) S.length 8 d = some p → R (.p p) S1 → T d (S1 ++ L)) → (b (ent n ds) S).sx F N T) : (runZ n b ds S).sx E R := by
  have h := h (fun x _ S' => ∃ S1 L, S' = S1 ++ L ∧ S1.length = S.length ∧ pureSt S1 ∧ E x S1) (fun _ S' => ∃ S1 L, S' = S1 ++ L ∧ S1.length = S.length ∧ pureSt S1 ∧ R (.p .non) S1) (fun d S' => ∃ S1 L, S' = S1 ++ L ∧ S1.length = S.length ∧ pureSt S1 ∧ ∃ p, fzD S' S.length 8 d = some p ∧ R (.p p) S1) (fun _ _ S1 L h1 h2 h3 => ⟨S1, L, rfl, h1, h2, h3⟩) (fun _ S1 L h1 h2 h3 => ⟨S1, L, rfl, h1, h2, h3⟩) (fun _ S1 L p h1 h2 h3 h4 => ⟨S1, L, rfl, h1, h2, p, h3, h4⟩)
  unfold runZ runB
  cases hb : b (ent n ds) S with
  | nx sl S' =>
    rw [hb] at h
    obtain ⟨S1, L, rfl, hl, hp, hR⟩ := h.out
    have e : (S1 ++ L).take S.length = S1 := by rw [← hl, List.take_left]
    simp only [froz, e, hp.cl, if_true, fzR]
    exact ⟨hR⟩
  | rt d S' =>
    rw [hb] at h
    obtain ⟨S1, L, rfl, hl, hp, p, hf, hR⟩ := h.out
    have e : (S1 ++ L).take S.length = S1 := by rw [← hl, List.take_left]
    simp only [froz, e, hp.cl, if_true]
    cases d with
    | p q => simp only [fzR, e]; simp only [fzD, Option.some.injEq] at hf; subst hf; exact ⟨hR⟩
    | ref m =>
      have hm : ¬ m < S.length := fun hm => by
        simp only [fzD, if_pos hm] at hf; cases hf
      simp only [fzR, if_neg hm, hf, e]
      exact ⟨hR⟩
  | bk _ _ => rw [hb] at h; exact h.out.elim
  | ct _ _ => rw [hb] at h; exact h.out.elim
  | exc x sl S' =>
    rw [hb] at h
    obtain ⟨S1, L, rfl, hl, hp, hR⟩ := h.out
    have e : (S1 ++ L).take S.length = S1 := by rw [← hl, List.take_left]
    simp only [froz, e, hp.cl, if_true]
    exact ⟨hR⟩
  | no => rw [hb] at h; exact h.out.elim
theorem runB_by {n : Nat} {b : MS} {ds : List D} (h : ∀ (F : Xc → Slots → Store → Prop) (N : Slots → Store → Prop), (∀ x sl S', E x S' → F x sl S') → (∀ sl S', R (.p .non) S' → N sl S') → (b (ent n ds) S).sx F N R) : (runB n b ds S).sx E R := by
  rw [w_runB]; exact h _ _ (fun _ _ _ h => h) fun _ _ h => h
/-! steps -/
variable {m : M} {i n : Nat} {m1 m2 b : MS} {ds : List D}
theorem set_by (P : D → Store → Prop) (h : ∀ R : D → Store → Prop, (∀ d S1, P d S1 → R d S1) → (m sl S).sx (atS F sl) R) (k : ∀ d S1, P d S1 → (m2 (sl.set i (some d)) S1).sx F N T) : (sSeq (sSet i m) m2 sl S).sx F N T := by
  rw [w_seq, w_set]
  exact h _ k
theorem seq_by (P : Slots → Store → Prop) (h : ∀ R : Slots → Store → Prop, (∀ sl S1, P sl S1 → R sl S1) → (m1 sl S).sx F R T) (k : ∀ sl S1, P sl S1 → (m2 sl S1).sx F N T) : (sSeq m1 m2 sl S).sx F N T := by
  rw [w_seq]
  exact h _ k
end
end Z

namespace Z
open PySem PySem.Spec PyProof.Rows L2
/-! ### the bag of draws -/
abbrev bagC (g m : Int) : Cell := .lst [.p (.int g), .p (.int m)]
def Bag (S : Store) (n : Nat) : Prop := ∃ g m : Int, S[n]? = some (bagC g m) ∧ 0 ≤ g ∧ 0 ≤ m ∧ m < 2147483648
def Upd (n : Nat) (S S' : Store) : Prop := ∃ g m : Int, S' = S.set n (bagC g m) ∧ 0 ≤ g ∧ 0 ≤ m ∧ m < 2147483648
theorem Bag.lt {S : Store} {n : Nat} (h : Bag S n) : n < S.length := by
  obtain ⟨g, m, e, _⟩ := h
  exact (List.getElem?_eq_some_iff.mp e).1
theorem Upd.bag {S S' : Store} {n : Nat} (u : Upd n S S') (h : Bag S n) : Bag S' n := by
  obtain ⟨g, m, rfl, h1, h2, h3⟩ := u
  exact ⟨g, m, List.getElem?_set_self h.lt, h1, h2, h3⟩
theorem Upd.refl {S : Store} {n : Nat} (h : Bag S n) : Upd n S S := by
  obtain ⟨g, m, e, h1⟩ := h
  refine ⟨g, m, ?_, h1⟩
  obtain ⟨hl, e⟩ := List.getElem?_eq_some_iff.mp e
  rw [← e, List.set_getElem_self]
theorem Upd.trans {S S' S'' : Store} {n : Nat} (u : Upd n S S') (v : Upd n S' S'') : Upd n S S'' := by
  obtain ⟨g, m, rfl, _⟩ := u
  obtain ⟨g', m', rfl, h⟩ := v
  exact ⟨g', m', by rw [List.set_set], h⟩
theorem Upd.len {S S' : Store} {n : Nat} (u : Upd n S S') : S'.length = S.length := by
  obtain ⟨g, m, rfl, _⟩ := u
  exact List.length_set
theorem Upd.get {S S' : Store} {n i : Nat} (u : Upd n S S') (h : i ≠ n) : S'[i]? = S[i]? := by
  obtain ⟨g, m, rfl, _⟩ := u
  exact List.getElem?_set_ne (Ne.symm h)
theorem Upd.pure {S S' : Store} {n : Nat} (u : Upd n S S') (h : pureSt S) : pureSt S' := by
  obtain ⟨g, m, rfl, _⟩ := u
  intro c hc
  rcases List.mem_or_eq_of_mem_set hc with hc | rfl
  · exact h c hc
  · rfl
theorem Bag.app {S L : Store} {n : Nat} (h : Bag S n) : Bag (S ++ L) n := by
  obtain ⟨g, m, e, h1⟩ := h
  exact ⟨g, m, by rw [List.getElem?_append_left (List.getElem?_eq_some_iff.mp e).1]; exact e, h1⟩
theorem Upd.app {S S' L : Store} {n : Nat} (u : Upd n (S ++ L) S') (h : Bag S n) : ∃ S1, S' = S1 ++ L ∧ Upd n S S1 := by
  obtain ⟨g, m, rfl, h1⟩ := u
  exact ⟨S.set n (bagC g m), by rw [List.set_append_left _ _ h.lt], g, m, rfl, h1⟩
@[simp] theorem viewP {S : Store} {p : P} : view S (.p p) = some p := rfl
@[simp] theorem entE {n : Nat} {ds : List D} : ent n ds = ds.map some ++ List.replicate (n - ds.length) none := rfl
section
variable {S L : Store} {n : Nat} {E : Xc → Store → Prop} {R : D → Store → Prop} {B : Bool → Store → Prop} {α : Type}
@[simp] theorem ix_pp {p q : P} : (ixG (.p p) (.p q) S).sx E R = match p with
    | .dic t ks ps => (okKey t q = true ∧ opt (lookL ks (ps.map D.p) q) fun r => R r S)
    | p => opt (ixP p q) fun r => R (.p r) S := by
  cases p <;> first
    | (simp only [ixG, dicOf, w_lift2, viewP, opt_some]; done)
    | skip
  rename_i t ks ps
  simp only [ixG, dicOf, viewP, cnd_sx]
  congr 1
  cases lookL ks (ps.map D.p) q <;> simp
theorem ix_lst {ds : List D} {i : Int} (e : S[n]? = some (.lst ds)) : (ixG (.ref n) (.p (.int i)) S).sx E R = opt (atI ds i) fun r => R r S := by
  simp only [ixG, dicOf, e, viewP]
  cases atI ds i <;> simp
theorem ix_dic {t : Bool} {ks : List P} {ds : List D} {q : P} (e : S[n]? = some (.dic t ks ds)) : (ixG (.ref n) (.p q) S).sx E R = (okKey t q = true ∧ opt (lookL ks ds q) fun r => R r S) := by
  simp only [ixG, dicOf, e, viewP, cnd_sx]
  congr 1
  cases lookL ks ds q <;> simp
theorem put_lst {ds : List D} {i : Int} {v : D} (e : S[n]? = some (.lst ds)) : putG S n (.p (.int i)) v = (ixN ds.length i).map fun j => S.set n (.lst (ds.set j v)) := by
  simp only [putG, e, viewP]
  cases ixN ds.length i <;> rfl
theorem put_dic {t : Bool} {ks : List P} {ds : List D} {q : P} {v : D} (e : S[n]? = some (.dic t ks ds)) : putG S n (.p q) v = if okKey t q = true ∧ ks.length < sizeLine then some (S.set n (.dic t (putKs ks q) (putV ks ds q v))) else none := by
  simp only [putG, e, viewP]
@[simp] theorem atI_0 {x : α} {l : List α} : atI (x :: l) 0 = some x := by simp [atI, ixN]
@[simp] theorem atI_1 {x y : α} {l : List α} : atI (x :: y :: l) 1 = some y := by
  have : (1 : Int) < ((l.length + 1 + 1 : Nat) : Int) := by omega
  simp only [atI, ixN, List.length_cons, if_pos this]; rfl
@[simp] theorem atI_2 {x y z : α} {l : List α} : atI (x :: y :: z :: l) 2 = some z := by
  have : (2 : Int) < ((l.length + 1 + 1 + 1 : Nat) : Int) := by omega
  simp only [atI, ixN, List.length_cons, if_pos this]; rfl
theorem in_pp {neg : Bool} {p q : P} (h : ∀ t ks ps, q ≠ .dic t ks ps) : (inG neg (.p p) (.p q) S).sx E R = opt ((if neg then opNotIn else opIn) p q) fun r => R (.p r) S := by
  cases q <;> first
    | (exfalso; exact h _ _ _ rfl)
    | skip
  all_goals
    simp only [inG, dicOf, w_lift2, viewP, opt_some]
@[simp] theorem views_nil {Q : List P → Prop} : opt (views S []) Q = Q [] := rfl
@[simp] theorem views_cons {d : D} {ds : List D} {Q : List P → Prop} : opt (views S (d :: ds)) Q = opt (view S d) fun p => opt (views S ds) fun ps => Q (p :: ps) := by
  simp only [views]
  cases view S d with
  | none => rfl
  | some p => cases views S ds <;> rfl
@[simp] theorem pures_nil : pures [] = some [] := rfl
@[simp] theorem pures_cons {p : P} {ds : List D} : pures (.p p :: ds) = (pures ds).map (p :: ·) := rfl
@[simp] theorem cmulR {m n : Int} (h : -(2 ^ 64) < n ∧ n < 2 ^ 64) : CMul m n := .inr h
@[simp] theorem opAdd_i {m n : Int} : opAdd (.int m) (.int n) = some (.int (m + n)) := rfl
@[simp] theorem opSub_i {m n : Int} : opSub (.int m) (.int n) = some (.int (m - n)) := rfl
theorem opMul_i {m n : Int} (h : -(2 ^ 64) < n ∧ n < 2 ^ 64) : opMul (.int m) (.int n) = some (.int (m * n)) := by simp only [opMul]; rw [if_pos (cmulR h)]
theorem opMod_i {m n : Int} (h : 0 < n) : opMod (.int m) (.int n) = some (.int (m % n)) := by simp only [opMod]; rw [if_pos h]
theorem opDiv_i {m n : Int} (h : 0 < n ∧ n < 1073741824) : opDiv (.int m) (.int n) = some (.int (m / n)) := by simp only [opDiv]; rw [if_pos (show CDiv m n from h)]
theorem opPow_i {m n : Int} (h : 0 ≤ n ∧ n ≤ 1000000 ∧ m.natAbs < 2 ^ 64) : opPow (.int m) (.int n) = some (.int (m ^ n.toNat)) := by simp only [opPow]; rw [if_pos (show CPow m n from h)]
@[simp] theorem cmp_i {g : Int → Int → Bool} {m n : Int} : cmpI g (.int m) (.int n) = some (.bl (g m n)) := rfl
@[simp] theorem opEq_i {m n : Int} : opEq (.int m) (.int n) = some (.bl (m == n)) := rfl
@[simp] theorem opNe_i {m n : Int} : opNe (.int m) (.int n) = some (.bl (!(m == n))) := rfl
@[simp] theorem intP_i {m : Int} : intP [.int m] = some (.int m) := rfl
@[simp] theorem intP_b {b : Bool} : intP [.bl b] = some (.int (if b then 1 else 0)) := rfl
@[simp] theorem absP_i {m : Int} : absP [.int m] = some (.int (if m < 0 then -m else m)) := rfl
@[simp] theorem opNeg_i {m : Int} : opNeg (.int m) = some (.int (-m)) := rfl
@[simp] theorem lenP_l {ps : List P} : lenP [.lst ps] = some (.int ps.length) := rfl
@[simp] theorem lenP_t {ps : List P} : lenP [.tup ps] = some (.int ps.length) := rfl
@[simp] theorem lenP_s {ns : List Int} : lenP [.scr ns] = some (.int ns.length) := rfl
@[simp] theorem minP_i {m n : Int} : minP [.int m, .int n] = some (.int (if n < m then n else m)) := rfl
@[simp] theorem maxP_i {m n : Int} : maxP [.int m, .int n] = some (.int (if n > m then n else m)) := rfl
@[simp] theorem tupleP_l {ps : List P} : tupleP [.lst ps] = some (.tup ps) := rfl
@[simp] theorem tupleP_t {ps : List P} : tupleP [.tup ps] = some (.tup ps) := rfl
@[simp] theorem seqOf_l {ps : List P} : seqOf (.lst ps) = some ps := rfl
@[simp] theorem seqOf_t {ps : List P} : seqOf (.tup ps) = some ps := rfl
@[simp] theorem seqOf_s {ns : List Int} : seqOf (.scr ns) = some (ns.map .int) := rfl
@[simp] theorem effN_e {j : Nat} {q : P} {sl : Slots} : effN j q sl = some (sl.set j (some (.p q))) := rfl
@[simp] theorem setAll_nil {sl : Slots} {ds : List D} : setAll sl [] ds = sl := by cases ds <;> rfl
@[simp] theorem setAll_cons {sl : Slots} {j : Nat} {js : List Nat} {d : D} {ds : List D} : setAll sl (j :: js) (d :: ds) = setAll (sl.set j (some d)) js ds := rfl
theorem step_set {F : Xc → Slots → Store → Prop} {N : Slots → Store → Prop} {T : D → Store → Prop} {m : M} {i : Nat} {m2 : MS} {sl : Slots} (P : D → Store → Prop) (h : (m sl S).sx (atS F sl) P) (k : ∀ d S1, P d S1 → (m2 (sl.set i (some d)) S1).sx F N T) : (sSeq (sSet i m) m2 sl S).sx F N T := by
  rw [w_seq, w_set]
  exact h.imp k
theorem step {F : Xc → Slots → Store → Prop} {N : Slots → Store → Prop} {T : D → Store → Prop} {m1 m2 : MS} {sl : Slots} (P : Slots → Store → Prop) (h : (m1 sl S).sx F P T) (k : ∀ sl S1, P sl S1 → (m2 sl S1).sx F N T) : (sSeq m1 m2 sl S).sx F N T := by
  rw [w_seq]
  exact h.imp k fun _ _ h => h
theorem at_lt {xs : List α} {k : Int} (h0 : 0 ≤ k) (h : k < (xs.length : Int)) : ∃ v, atI xs k = some v ∧ v ∈ xs := by
  have hl : k.toNat < xs.length := by omega
  refine ⟨xs[k.toNat], ?_, List.getElem_mem hl⟩
  simp only [atI, ixN, if_pos h0, if_pos h, Option.bind_some]
  exact List.getElem?_eq_getElem hl
end
end Z
namespace Kw
open PySem PySem.Spec PyProof.Rows L2 Z
section
variable {S L : Store} {n : Nat} {many : Int} {E : Xc → Store → Prop} {Q : D → Store → Prop}
theorem take_raw (hb : Bag S n) (h0 : 0 < many) (h1 : many < 1073741824) (k : ∀ d S', 0 ≤ d → d < many → Upd n S S' → Q (.p (.int d)) S') : (f_take [.ref n, .p (.int many)] S).sx E Q := by
  obtain ⟨g, m, e, hg, hm0, hm1⟩ := hb
  have hl : n < S.length := (List.getElem?_eq_some_iff.mp e).1
  have e' : ∀ c, (S.set n c)[n]? = some c := fun c => List.getElem?_set_self hl
  unfold f_take b_take
  rw [w_runB]
  simp [List.replicate, ix_lst e]
  split
  · rename_i hg'
    simp [opMod_i h0, opDiv_i ⟨h0, h1⟩, put_lst e, ixN]
    exact k _ _ (Int.emod_nonneg _ (by omega)) (Int.emod_lt_of_pos _ h0) ⟨g / many, m, rfl, Int.ediv_nonneg hg (by omega), hm0, hm1⟩
  · rename_i hg'
    have : m * 48271 + 12820163 < 2 ^ 64 := by omega
    have hz : (m * 48271 + 12820163) % 2147483647 < 2147483647 := Int.emod_lt_of_pos _ (by omega)
    have hz0 : 0 ≤ (m * 48271 + 12820163) % 2147483647 := Int.emod_nonneg _ (by omega)
    simp [opMul_i, opMod_i, put_lst e, ixN, ix_lst (e' _)]
    rw [opPow_i (by omega)]
    simp [opMod_i, opMod_i h0]
    exact k _ _ (Int.emod_nonneg _ (by omega)) (Int.emod_lt_of_pos _ h0) ⟨g, _, rfl, hg, hz0, by omega⟩
/-- a draw -/
theorem take_sat (hb : Bag S n) (h0 : 0 < many) (h1 : many < 1073741824) (k : ∀ d S', 0 ≤ d → d < many → Upd n S S' → Q (.p (.int d)) (S' ++ L)) : (f_take [.ref n, .p (.int many)] (S ++ L)).sx E Q :=
  take_raw hb.app h0 h1 fun d S' hd0 hd1 u => by
    obtain ⟨S1, rfl, u1⟩ := u.app hb
    exact k d S1 hd0 hd1 u1
theorem bag_sat {ns : List Int} {k : Int} (hk : 0 ≤ k) (hk' : k < 4294967296) (h : ∀ g m : Int, 0 ≤ g → 0 ≤ m → m < 2147483648 → Q (.ref S.length) (S ++ [bagC g m])) : (f_bag [.p (.scr ns), .p (.int k)] S).sx E Q := by
  unfold f_bag b_bag
  rw [w_runB]
  refine step_set (fun d S1 => S = S1 ∧ ∃ c : Int, d = .p (.int c)) ?_ ?_
  · simp [List.replicate, ixP]
    intro hl
    obtain ⟨v, e, _⟩ := at_lt (xs := ns) hk hl
    simp [e]
  rintro d _ ⟨rfl, c, rfl⟩
  refine step_set (fun d S1 => S = S1 ∧ ∃ g : Int, 0 ≤ g ∧ d = .p (.int g)) ?_ ?_
  · simp [List.replicate, opPow_i]
    split <;> omega
  rintro d _ ⟨rfl, g, hg, rfl⟩
  refine step_set (fun d S1 => S = S1 ∧ ∃ m : Int, d = .p (.int m)) ?_ ?_
  · simp [List.replicate, opMul_i (show -(2 ^ 64) < k ∧ k < 2 ^ 64 by omega)]
  rintro d _ ⟨rfl, m, rfl⟩
  rw [w_seq]
  simp only [w_for]
  refine Rs.sx.imp (P := fun its S1 => S = S1 ∧ ∃ zs : List Int, its = zs.map .int) ?_ ?_
  · simp [List.replicate, slP]
    exact ⟨_, rfl⟩
  rintro its _ ⟨rfl, zs, rfl⟩
  refine loop_sx (fun its sl S' => S = S' ∧ (∃ zs : List Int, its = zs.map .int) ∧ ∃ (m : Int) (x : Option D), sl = [some (.p (.scr ns)), some (.p (.int k)), some (.p (.int c)), some (.p (.int g)), some (.p (.int m)), x]) ?_ ?_ _ _ _ ⟨rfl, ⟨_, rfl⟩, m, none, by simp [List.replicate]⟩
  · rintro q qs sl S' ⟨rfl, ⟨zs, hz⟩, m, x, rfl⟩
    cases zs with
    | nil => cases hz
    | cons z zs =>
      cases hz
      refine ⟨_, rfl, ?_⟩
      simp [opMul_i, opMod_i]
      exact ⟨zs, rfl⟩
  · rintro sl S' ⟨rfl, _, m, x, rfl⟩
    have : 0 ≤ (m + 31 * c) % 2147483563 := Int.emod_nonneg _ (by omega)
    have : (m + 31 * c) % 2147483563 < 2147483563 := Int.emod_lt_of_pos _ (by omega)
    have e : opMul (.int 31) (.int c) = some (.int (31 * c)) := by simp only [opMul]; rw [if_pos (show CMul 31 c from .inl (by decide))]
    simp [e, opMod_i, show 2 ≤ sizeLine by decide]
    exact h _ _ hg (by omega) (by omega)
end
end Kw

namespace Z
open PySem PySem.Spec PyProof.Rows L2
/-! ### comprehensions that change nothing -/
theorem Rs.sx.eq {r : Rs D} {d : D} {S : Store} (h : r.sx noE fun a S' => a = d ∧ S' = S) : r = .ok d S := by
  obtain ⟨a, S', e, rfl, rfl⟩ := h.ok
  exact e
theorem lc_filter {eff : Eff} {t : MT} {me : M} {own : List Nat} {sl : Slots} {S : Store} (c : P → Bool) (g : P → P) : ∀ (its acc : List P), (∀ q ∈ its, ∃ sl1, eff q (wipeS sl own) = some sl1 ∧ t sl1 S = .ok (c q) S ∧ (c q = true → me sl1 S = .ok (.p (g q)) S)) → acc.length + its.length ≤ sizeLine → lcL eff t me own sl its acc S = .ok (acc ++ (its.filter c).map g) S
  | [], acc, _, _ => by simp [lcL]
  | q :: qs, acc, h, hl => by
    obtain ⟨sl1, e1, e2, e3⟩ := h q (List.mem_cons_self ..)
    simp only [List.length_cons] at hl
    simp only [lcL, e1, e2]
    cases hc : c q with
    | true =>
      simp only [e3 hc, if_pos (show acc.length < sizeLine by omega)]
      rw [lc_filter c g qs (acc ++ [g q]) (fun q' hq' => h q' (List.mem_cons_of_mem _ hq')) (by simp; omega)]
      simp [hc]
    | false =>
      simp only []
      rw [lc_filter c g qs acc (fun q' hq' => h q' (List.mem_cons_of_mem _ hq')) (by omega)]
      simp [hc]
theorem lc_map {eff : Eff} {me : M} {own : List Nat} {sl : Slots} {S : Store} (g : P → P) (its acc : List P) (h : ∀ q ∈ its, ∃ sl1, eff q (wipeS sl own) = some sl1 ∧ me sl1 S = .ok (.p (g q)) S) (hl : acc.length + its.length ≤ sizeLine) : lcL eff tYes me own sl its acc S = .ok (acc ++ its.map g) S := by
  have := lc_filter (t := tYes) (fun _ => true) g its acc (fun q hq => let ⟨sl1, e1, e2⟩ := h q hq; ⟨sl1, e1, rfl, fun _ => e2⟩) hl
  rw [this, List.filter_eq_self.mpr (fun _ _ => rfl)]
/-! ### texts -/
theorem str_size (z : Str) : z.cps.toList.length = z.length := by rw [Array.length_toList]; rfl
theorem in_one (y : Str) (c : Nat) : opIn (.str ⟨#[c]⟩) (.str y) = some (.bl (decide (c ∈ y.cps.toList))) := by
  simp only [opIn]
  rw [StrLaws.found_one y c]
theorem nin_one (y : Str) (c : Nat) : opNotIn (.str ⟨#[c]⟩) (.str y) = some (.bl (!decide (c ∈ y.cps.toList))) := by
  simp only [opNotIn, in_one, notP]
theorem in_c {S : Store} {E : Xc → Store → Prop} {R : D → Store → Prop} {y : Str} {c : Nat} : (inG false (.p (.str ⟨#[c]⟩)) (.p (.str y)) S).sx E R = R (.p (.bl (decide (c ∈ y.cps.toList)))) S := by
  rw [in_pp (by intros; exact fun h => nomatch h)]
  simp [in_one]
theorem nin_c {S : Store} {E : Xc → Store → Prop} {R : D → Store → Prop} {y : Str} {c : Nat} : (inG true (.p (.str ⟨#[c]⟩)) (.p (.str y)) S).sx E R = R (.p (.bl (!decide (c ∈ y.cps.toList)))) S := by
  rw [in_pp (by intros; exact fun h => nomatch h)]
  simp [nin_one]
theorem chars_eq (z : Str) : chars z = z.cps.toList.map fun c => .str ⟨#[c]⟩ := by
  rfl
/-- data of a moderate size -/
def sm : Nat → P → Bool
  | _, .non => true
  | _, .bl _ => true
  | _, .int _ => true
  | _, .str z => chOk z && decide (z.length ≤ 1000)
  | n + 1, .lst xs => decide (xs.length ≤ 1000) && xs.all (sm n)
  | n + 1, .tup xs => decide (xs.length ≤ 1000) && xs.all (sm n)
  | _, _ => false
theorem sm_fin : ∀ (n : Nat) (p : P), sm n p = true → fin n p = true
  | 0, p, h => by cases p <;> simp_all [sm, fin]
  | n + 1, p, h => by
    cases p <;> simp_all [sm, fin]
    all_goals exact fun x hx => sm_fin n x (h.2 x hx)
end Z

namespace Z
open PySem PySem.Spec PyProof.Rows L2
theorem kit_non_str : kitB "NoneType" "str" = some false := by decide +kernel
@[simp] theorem isi_non_str : isiP [.non, .ty "str"] = some (.bl false) := by simp only [isiP, plainP, tyP, kit_non_str, if_true, Option.map_some]
theorem kit_bl_str : kitB "bool" "str" = some false := by decide +kernel
@[simp] theorem isi_bl_str {b : Bool} : isiP [.bl b, .ty "str"] = some (.bl false) := by simp only [isiP, plainP, tyP, kit_bl_str, if_true, Option.map_some]
theorem kit_int_str : kitB "int" "str" = some false := by decide +kernel
@[simp] theorem isi_int_str {i : Int} : isiP [.int i, .ty "str"] = some (.bl false) := by simp only [isiP, plainP, tyP, kit_int_str, if_true, Option.map_some]
theorem kit_str_str : kitB "str" "str" = some true := by decide +kernel
@[simp] theorem isi_str_str {z : Str} : isiP [.str z, .ty "str"] = some (.bl true) := by simp only [isiP, plainP, tyP, kit_str_str, if_true, Option.map_some]
theorem kit_lst_str : kitB "list" "str" = some false := by decide +kernel
@[simp] theorem isi_lst_str {ps : List P} : isiP [.lst ps, .ty "str"] = some (.bl false) := by simp only [isiP, plainP, tyP, kit_lst_str, if_true, Option.map_some]
theorem kit_tup_str : kitB "tuple" "str" = some false := by decide +kernel
@[simp] theorem isi_tup_str {ps : List P} : isiP [.tup ps, .ty "str"] = some (.bl false) := by simp only [isiP, plainP, tyP, kit_tup_str, if_true, Option.map_some]
theorem kit_non_int : kitB "NoneType" "int" = some false := by decide +kernel
@[simp] theorem isi_non_int : isiP [.non, .ty "int"] = some (.bl false) := by simp only [isiP, plainP, tyP, kit_non_int, if_true, Option.map_some]
theorem kit_bl_int : kitB "bool" "int" = some true := by decide +kernel
@[simp] theorem isi_bl_int {b : Bool} : isiP [.bl b, .ty "int"] = some (.bl true) := by simp only [isiP, plainP, tyP, kit_bl_int, if_true, Option.map_some]
theorem kit_int_int : kitB "int" "int" = some true := by decide +kernel
@[simp] theorem isi_int_int {i : Int} : isiP [.int i, .ty "int"] = some (.bl true) := by simp only [isiP, plainP, tyP, kit_int_int, if_true, Option.map_some]
theorem kit_str_int : kitB "str" "int" = some false := by decide +kernel
@[simp] theorem isi_str_int {z : Str} : isiP [.str z, .ty "int"] = some (.bl false) := by simp only [isiP, plainP, tyP, kit_str_int, if_true, Option.map_some]
theorem kit_lst_int : kitB "list" "int" = some false := by decide +kernel
@[simp] theorem isi_lst_int {ps : List P} : isiP [.lst ps, .ty "int"] = some (.bl false) := by simp only [isiP, plainP, tyP, kit_lst_int, if_true, Option.map_some]
theorem kit_tup_int : kitB "tuple" "int" = some false := by decide +kernel
@[simp] theorem isi_tup_int {ps : List P} : isiP [.tup ps, .ty "int"] = some (.bl false) := by simp only [isiP, plainP, tyP, kit_tup_int, if_true, Option.map_some]
theorem kit_non_bool : kitB "NoneType" "bool" = some false := by decide +kernel
@[simp] theorem isi_non_bool : isiP [.non, .ty "bool"] = some (.bl false) := by simp only [isiP, plainP, tyP, kit_non_bool, if_true, Option.map_some]
theorem kit_bl_bool : kitB "bool" "bool" = some true := by decide +kernel
@[simp] theorem isi_bl_bool {b : Bool} : isiP [.bl b, .ty "bool"] = some (.bl true) := by simp only [isiP, plainP, tyP, kit_bl_bool, if_true, Option.map_some]
theorem kit_int_bool : kitB "int" "bool" = some false := by decide +kernel
@[simp] theorem isi_int_bool {i : Int} : isiP [.int i, .ty "bool"] = some (.bl false) := by simp only [isiP, plainP, tyP, kit_int_bool, if_true, Option.map_some]
theorem kit_str_bool : kitB "str" "bool" = some false := by decide +kernel
@[simp] theorem isi_str_bool {z : Str} : isiP [.str z, .ty "bool"] = some (.bl false) := by simp only [isiP, plainP, tyP, kit_str_bool, if_true, Option.map_some]
theorem kit_lst_bool : kitB "list" "bool" = some false := by decide +kernel
@[simp] theorem isi_lst_bool {ps : List P} : isiP [.lst ps, .ty "bool"] = some (.bl false) := by simp only [isiP, plainP, tyP, kit_lst_bool, if_true, Option.map_some]
theorem kit_tup_bool : kitB "tuple" "bool" = some false := by decide +kernel
@[simp] theorem isi_tup_bool {ps : List P} : isiP [.tup ps, .ty "bool"] = some (.bl false) := by simp only [isiP, plainP, tyP, kit_tup_bool, if_true, Option.map_some]
theorem kit_non_tuple : kitB "NoneType" "tuple" = some false := by decide +kernel
@[simp] theorem isi_non_tuple : isiP [.non, .ty "tuple"] = some (.bl false) := by simp only [isiP, plainP, tyP, kit_non_tuple, if_true, Option.map_some]
theorem kit_bl_tuple : kitB "bool" "tuple" = some false := by decide +kernel
@[simp] theorem isi_bl_tuple {b : Bool} : isiP [.bl b, .ty "tuple"] = some (.bl false) := by simp only [isiP, plainP, tyP, kit_bl_tuple, if_true, Option.map_some]
theorem kit_int_tuple : kitB "int" "tuple" = some false := by decide +kernel
@[simp] theorem isi_int_tuple {i : Int} : isiP [.int i, .ty "tuple"] = some (.bl false) := by simp only [isiP, plainP, tyP, kit_int_tuple, if_true, Option.map_some]
theorem kit_str_tuple : kitB "str" "tuple" = some false := by decide +kernel
@[simp] theorem isi_str_tuple {z : Str} : isiP [.str z, .ty "tuple"] = some (.bl false) := by simp only [isiP, plainP, tyP, kit_str_tuple, if_true, Option.map_some]
theorem kit_lst_tuple : kitB "list" "tuple" = some false := by decide +kernel
@[simp] theorem isi_lst_tuple {ps : List P} : isiP [.lst ps, .ty "tuple"] = some (.bl false) := by simp only [isiP, plainP, tyP, kit_lst_tuple, if_true, Option.map_some]
theorem kit_tup_tuple : kitB "tuple" "tuple" = some true := by decide +kernel
@[simp] theorem isi_tup_tuple {ps : List P} : isiP [.tup ps, .ty "tuple"] = some (.bl true) := by simp only [isiP, plainP, tyP, kit_tup_tuple, if_true, Option.map_some]
theorem kit_non_list : kitB "NoneType" "list" = some false := by decide +kernel
@[simp] theorem isi_non_list : isiP [.non, .ty "list"] = some (.bl false) := by simp only [isiP, plainP, tyP, kit_non_list, if_true, Option.map_some]
theorem kit_bl_list : kitB "bool" "list" = some false := by decide +kernel
@[simp] theorem isi_bl_list {b : Bool} : isiP [.bl b, .ty "list"] = some (.bl false) := by simp only [isiP, plainP, tyP, kit_bl_list, if_true, Option.map_some]
theorem kit_int_list : kitB "int" "list" = some false := by decide +kernel
@[simp] theorem isi_int_list {i : Int} : isiP [.int i, .ty "list"] = some (.bl false) := by simp only [isiP, plainP, tyP, kit_int_list, if_true, Option.map_some]
theorem kit_str_list : kitB "str" "list" = some false := by decide +kernel
@[simp] theorem isi_str_list {z : Str} : isiP [.str z, .ty "list"] = some (.bl false) := by simp only [isiP, plainP, tyP, kit_str_list, if_true, Option.map_some]
theorem kit_lst_list : kitB "list" "list" = some true := by decide +kernel
@[simp] theorem isi_lst_list {ps : List P} : isiP [.lst ps, .ty "list"] = some (.bl true) := by simp only [isiP, plainP, tyP, kit_lst_list, if_true, Option.map_some]
theorem kit_tup_list : kitB "tuple" "list" = some false := by decide +kernel
@[simp] theorem isi_tup_list {ps : List P} : isiP [.tup ps, .ty "list"] = some (.bl false) := by simp only [isiP, plainP, tyP, kit_tup_list, if_true, Option.map_some]
@[simp] theorem tru_bl {b : Bool} : truP (.bl b) = some b := rfl
@[simp] theorem tru_int {i : Int} : truP (.int i) = some (i != 0) := rfl
@[simp] theorem tru_non : truP .non = some false := rfl
@[simp] theorem tru_lst {ps : List P} : truP (.lst ps) = some (!ps.isEmpty) := rfl
@[simp] theorem tru_tup {ps : List P} : truP (.tup ps) = some (!ps.isEmpty) := rfl
/-! ### words -/
def cs (z : Str) : List Nat := z.cps.toList
theorem cs_len (z : Str) : (cs z).length = z.length := str_size z
def mem (c : Nat) (y : Str) : Bool := decide (c ∈ cs y)
theorem in_cs {S : Store} {E : Xc → Store → Prop} {R : D → Store → Prop} {y : Str} {c : Nat} : (inG false (.p (.str ⟨#[c]⟩)) (.p (.str y)) S).sx E R = R (.p (.bl (mem c y))) S := in_c
theorem nin_cs {S : Store} {E : Xc → Store → Prop} {R : D → Store → Prop} {y : Str} {c : Nat} : (inG true (.p (.str ⟨#[c]⟩)) (.p (.str y)) S).sx E R = R (.p (.bl (!mem c y))) S := nin_c
def ch (c : Nat) : P := .str ⟨#[c]⟩
def unch : P → Nat
  | .str ⟨cs⟩ => cs.toList.headD 0
  | _ => 0
@[simp] theorem unch_ch {c : Nat} : unch (ch c) = c := rfl
@[simp] theorem in_ch {S : Store} {E : Xc → Store → Prop} {R : D → Store → Prop} {y : Str} {c : Nat} : (inG false (.p (ch c)) (.p (.str y)) S).sx E R = R (.p (.bl (mem c y))) S := in_c
@[simp] theorem nin_ch {S : Store} {E : Xc → Store → Prop} {R : D → Store → Prop} {y : Str} {c : Nat} : (inG true (.p (ch c)) (.p (.str y)) S).sx E R = R (.p (.bl (!mem c y))) S := nin_c
theorem chars_cs (z : Str) : chars z = (cs z).map ch := chars_eq z
theorem ixP_z {z : Str} {i : Int} (h : z.length ≤ sizeLine) : ixP (.str z) (.int i) = (atI (cs z) i).map ch := by simp only [ixP, if_pos h]; rfl
def LOWERS : Str := "abcdefghijklmnopqrstuvwxyz"
def FIGS : Str := "0123456789"
def SIGNS : Str := "abcdefghijklmnopqrstuvwxyz0123456789"
def conS (z y : Str) : Bool := (cs z).all fun c => mem c y
def headIn (z y : Str) : Bool := match cs z with
  | c :: _ => mem c y
  | [] => false
def isNameS (z : Str) : Bool := (decide (1 ≤ (z.length : Int)) && decide ((z.length : Int) ≤ 8)) && (headIn z LOWERS && conS z SIGNS)
def isNameP : P → Bool
  | .str z => isNameS z
  | _ => false
def lastCp (z : Str) : Nat := (cs z).getLastD 0
def isKindS (z : Str) : Bool := (decide (2 ≤ (z.length : Int)) && decide ((z.length : Int) ≤ 6 + 1)) && (conS (cutS z none (some (-1))) LOWERS && (mem (lastCp z) FIGS && (decide (1 ≤ (lastCp z : Int) - 48) && decide ((lastCp z : Int) - 48 ≤ 4))))
def isKindP : P → Bool
  | .str z => isKindS z
  | _ => false
theorem boolsOf_map {α : Type} (xs : List α) (f : α → Bool) : boolsOf (xs.map fun c => .bl (f c)) = some (xs.map f) := by
  induction xs with
  | nil => rfl
  | cons x xs ih => simp only [List.map_cons, boolsOf, ih, Option.map_some]
theorem allP_map {α : Type} (xs : List α) (f : α → Bool) : allP [.lst (xs.map fun c => .bl (f c))] = some (.bl (xs.all f)) := by
  simp only [allP, boolsOf_map, Option.map_some, List.all_map]
  rfl
theorem anyP_map {α : Type} (xs : List α) (f : α → Bool) : anyP [.lst (xs.map fun c => .bl (f c))] = some (.bl (xs.any f)) := by
  simp only [anyP, boolsOf_map, Option.map_some, List.any_map]
  rfl
theorem sm_str {n : Nat} {z : Str} (h : sm n (.str z) = true) : chOk z = true ∧ z.length ≤ 1000 := by
  cases n <;> simpa [sm] using h
theorem lenP_z {z : Str} (h : z.length ≤ sizeLine) : lenP [.str z] = some (.int z.length) := by simp [lenP, h]
theorem atI_neg1 (z : Str) (h : 1 ≤ z.length) : atI (cs z) (-1) = some (lastCp z) := by
  have hs := cs_len z
  unfold atI ixN lastCp
  rw [if_neg (by omega), if_pos (by omega), Option.bind_some]
  have : (-1 + ((cs z).length : Int)).toNat = (cs z).length - 1 := by omega
  rw [this, ← List.getLast?_eq_getElem?]
  cases hl : cs z with
  | nil => rw [hl] at hs; simp at hs; omega
  | cons c r => simp [List.getLast?_cons]
theorem fig_int {c : Nat} (h : mem c FIGS = true) : PySem.intText? ⟨#[c]⟩ = some ((c : Int) - 48) := by
  have h := of_decide_eq_true h
  have e : cs FIGS = [48, 49, 50, 51, 52, 53, 54, 55, 56, 57] := by decide +kernel
  rw [e] at h
  simp only [List.mem_cons, List.not_mem_nil, or_false] at h
  rcases h with rfl | rfl | rfl | rfl | rfl | rfl | rfl | rfl | rfl | rfl <;> decide +kernel
end Z
namespace Kw
open PySem PySem.Spec PyProof.Rows L2 Z
section
variable {S : Store} {n : Nat} {p : Z.P}
theorem consists_eq {z y : Str} (hz : z.length ≤ sizeLine) : f_consists_of [.p (.str z), .p (.str y)] S = .ok (.p (.bl (conS z y))) S := by
  apply Rs.sx.eq
  unfold f_consists_of b_consists_of
  rw [w_runB]
  simp [List.replicate, seqOf]
  rw [lc_map (fun q => .bl (mem (unch q) y))]
  · simp [chars_cs, Function.comp_def, conS, allP_map]
  · intro q hq
    rw [chars_cs] at hq
    obtain ⟨c, hc, rfl⟩ := List.mem_map.mp hq
    refine ⟨_, rfl, ?_⟩
    apply Rs.sx.eq
    simp [wipeS]
  · rw [chars_cs, List.length_map, cs_len]; simpa using hz
theorem is_name_eq (h : sm n p = true) : f_is_name [.p p] S = .ok (.p (.bl (isNameP p))) S := by
  apply Rs.sx.eq
  unfold f_is_name b_is_name
  rw [w_runB]
  cases p <;> first | (cases n <;> simp [sm] at h; done) | skip
  case str z =>
    obtain ⟨h1, h2⟩ := sm_str h
    have hz : z.length ≤ sizeLine := Nat.le_trans h2 (by decide)
    simp [List.replicate, lenP_z hz, isNameP, isNameS, consists_eq hz, ixP_z hz]
    by_cases hl : (1 : Int) ≤ (z.length : Int)
    · by_cases hl2 : (z.length : Int) ≤ 8
      · have hs := cs_len z
        cases hc : cs z with
        | nil => rw [hc] at hs; simp at hs; omega
        | cons c r =>
          simp [hl, hl2, headIn, hc]
          cases hd : mem c LOWERS <;> simp_all [LOWERS, SIGNS]
      · simp [hl, hl2]
    · simp [hl]
  all_goals simp [List.replicate, isNameP]
end
end Kw

namespace Z
open PySem PySem.Spec PyProof.Rows L2
theorem slP_z {z : Str} {lo hi : Option Int} (h : z.length ≤ sizeLine) : slP lo hi (.str z) = some (.str (cutS z lo hi)) := by simp only [slP, if_pos h]
theorem cutS_le (z : Str) (lo hi : Option Int) : (cutS z lo hi).length ≤ z.length := by
  rw [← str_size, ← str_size]
  unfold cutS
  simp only [List.length_take, List.length_drop]
  omega
theorem intP_ch {c : Nat} (h : mem c FIGS = true) : intP [ch c] = some (.int ((c : Int) - 48)) := by
  simp only [intP, ch]
  rw [if_pos (by show (1 : Nat) ≤ 640; decide), fig_int h]
  rfl
def isIntP : P → Bool
  | .int _ => true
  | _ => false
def absI (i : Int) : Int := if i < 0 then -i else i
def isNumP : P → Bool
  | .int i => decide (absI i < 10 ^ 40)
  | _ => false
def isOffP : P → Bool
  | .int i => decide (0 ≤ i) && decide (i < 8)
  | _ => false
def isManyP : P → Bool
  | .int i => decide (1 ≤ i) && decide (i ≤ 8)
  | _ => false
def isValP : P → Bool
  | .int i => decide (absI i < 10 ^ 40)
  | .str z => isNameS z
  | _ => false
end Z
namespace Kw
open PySem PySem.Spec PyProof.Rows L2 Z
section
variable {S : Store} {n : Nat} {p : Z.P}
theorem is_kind_eq (h : sm n p = true) : f_is_kind [.p p] S = .ok (.p (.bl (isKindP p))) S := by
  apply Rs.sx.eq
  unfold f_is_kind b_is_kind
  rw [w_runB]
  cases p <;> first | (cases n <;> simp [sm] at h; done) | skip
  case str z =>
    obtain ⟨h1, h2⟩ := sm_str h
    have hz : z.length ≤ sizeLine := Nat.le_trans h2 (by decide)
    have hc : (cutS z none (some (-1))).length ≤ sizeLine := Nat.le_trans (cutS_le _ _ _) hz
    simp [List.replicate, lenP_z hz, isKindP, isKindS, slP_z hz, consists_eq hc, ixP_z hz]
    by_cases hl : (2 : Int) ≤ (z.length : Int)
    · by_cases hl2 : (z.length : Int) ≤ 7
      · have e := atI_neg1 z (by omega)
        simp [hl, hl2, e]
        cases hd : conS (cutS z none (some (-1))) LOWERS with
        | false => simp_all [LOWERS]
        | true =>
          rw [show conS (cutS z none (some (-1))) (Str.ofString "abcdefghijklmnopqrstuvwxyz") = true from hd]
          cases hm : mem (lastCp z) FIGS with
          | false =>
            rw [show mem (lastCp z) (Str.ofString "0123456789") = false from hm]
            simp
          | true =>
            rw [show mem (lastCp z) (Str.ofString "0123456789") = true from hm]
            simp [intP_ch hm]
            split <;> simp_all <;> omega
      · simp [hl, hl2]
    · simp [hl]
  all_goals simp [List.replicate, isKindP]
theorem is_integer_eq (h : sm n p = true) : f_is_integer [.p p] S = .ok (.p (.bl (isIntP p))) S := by
  apply Rs.sx.eq
  unfold f_is_integer b_is_integer
  rw [w_runB]
  cases p <;> first | (cases n <;> simp [sm] at h; done) | skip
  all_goals simp [List.replicate, isIntP]
theorem is_number_eq (h : sm n p = true) : f_is_number [.p p] S = .ok (.p (.bl (isNumP p))) S := by
  apply Rs.sx.eq
  unfold f_is_number b_is_number
  rw [w_runB]
  simp [List.replicate, is_integer_eq h]
  cases p <;> first | (cases n <;> simp [sm] at h; done) | skip
  all_goals simp [isIntP, isNumP, opPow_i, absI]
  exact decide_eq_decide.mpr Iff.rfl
theorem is_offset_eq (h : sm n p = true) : f_is_offset [.p p] S = .ok (.p (.bl (isOffP p))) S := by
  apply Rs.sx.eq
  unfold f_is_offset b_is_offset
  rw [w_runB]
  simp [List.replicate, is_integer_eq h]
  cases p <;> first | (cases n <;> simp [sm] at h; done) | skip
  all_goals simp [isIntP, isOffP]
  split <;> simp_all <;> omega
theorem is_many_eq (h : sm n p = true) : f_is_many [.p p] S = .ok (.p (.bl (isManyP p))) S := by
  apply Rs.sx.eq
  unfold f_is_many b_is_many
  rw [w_runB]
  simp [List.replicate, is_integer_eq h]
  cases p <;> first | (cases n <;> simp [sm] at h; done) | skip
  all_goals simp [isIntP, isManyP]
  split <;> simp_all <;> omega
theorem is_value_eq (h : sm n p = true) : f_is_value [.p p] S = .ok (.p (.bl (isValP p))) S := by
  apply Rs.sx.eq
  unfold f_is_value b_is_value
  rw [w_runB]
  simp [List.replicate, is_number_eq h, is_name_eq h]
  cases p <;> first | (cases n <;> simp [sm] at h; done) | skip
  all_goals simp [isNumP, isValP, isNameP]
  split <;> simp_all
end
end Kw

namespace Z
open PySem PySem.Spec PyProof.Rows L2
@[simp] theorem ne_read_write : (Str.ofString "read" == Str.ofString "write") = false := by decide +kernel
@[simp] theorem nq_read_write : (Str.ofString "read" = Str.ofString "write") = False := by simp only [eq_iff_iff, iff_false]; decide +kernel
@[simp] theorem ne_read_copy : (Str.ofString "read" == Str.ofString "copy") = false := by decide +kernel
@[simp] theorem nq_read_copy : (Str.ofString "read" = Str.ofString "copy") = False := by simp only [eq_iff_iff, iff_false]; decide +kernel
@[simp] theorem ne_read_blank : (Str.ofString "read" == Str.ofString "blank") = false := by decide +kernel
@[simp] theorem nq_read_blank : (Str.ofString "read" = Str.ofString "blank") = False := by simp only [eq_iff_iff, iff_false]; decide +kernel
@[simp] theorem ne_read_tell : (Str.ofString "read" == Str.ofString "tell") = false := by decide +kernel
@[simp] theorem nq_read_tell : (Str.ofString "read" = Str.ofString "tell") = False := by simp only [eq_iff_iff, iff_false]; decide +kernel
@[simp] theorem ne_write_read : (Str.ofString "write" == Str.ofString "read") = false := by decide +kernel
@[simp] theorem nq_write_read : (Str.ofString "write" = Str.ofString "read") = False := by simp only [eq_iff_iff, iff_false]; decide +kernel
@[simp] theorem ne_write_copy : (Str.ofString "write" == Str.ofString "copy") = false := by decide +kernel
@[simp] theorem nq_write_copy : (Str.ofString "write" = Str.ofString "copy") = False := by simp only [eq_iff_iff, iff_false]; decide +kernel
@[simp] theorem ne_write_blank : (Str.ofString "write" == Str.ofString "blank") = false := by decide +kernel
@[simp] theorem nq_write_blank : (Str.ofString "write" = Str.ofString "blank") = False := by simp only [eq_iff_iff, iff_false]; decide +kernel
@[simp] theorem ne_write_tell : (Str.ofString "write" == Str.ofString "tell") = false := by decide +kernel
@[simp] theorem nq_write_tell : (Str.ofString "write" = Str.ofString "tell") = False := by simp only [eq_iff_iff, iff_false]; decide +kernel
@[simp] theorem ne_copy_read : (Str.ofString "copy" == Str.ofString "read") = false := by decide +kernel
@[simp] theorem nq_copy_read : (Str.ofString "copy" = Str.ofString "read") = False := by simp only [eq_iff_iff, iff_false]; decide +kernel
@[simp] theorem ne_copy_write : (Str.ofString "copy" == Str.ofString "write") = false := by decide +kernel
@[simp] theorem nq_copy_write : (Str.ofString "copy" = Str.ofString "write") = False := by simp only [eq_iff_iff, iff_false]; decide +kernel
@[simp] theorem ne_copy_blank : (Str.ofString "copy" == Str.ofString "blank") = false := by decide +kernel
@[simp] theorem nq_copy_blank : (Str.ofString "copy" = Str.ofString "blank") = False := by simp only [eq_iff_iff, iff_false]; decide +kernel
@[simp] theorem ne_copy_tell : (Str.ofString "copy" == Str.ofString "tell") = false := by decide +kernel
@[simp] theorem nq_copy_tell : (Str.ofString "copy" = Str.ofString "tell") = False := by simp only [eq_iff_iff, iff_false]; decide +kernel
@[simp] theorem ne_blank_read : (Str.ofString "blank" == Str.ofString "read") = false := by decide +kernel
@[simp] theorem nq_blank_read : (Str.ofString "blank" = Str.ofString "read") = False := by simp only [eq_iff_iff, iff_false]; decide +kernel
@[simp] theorem ne_blank_write : (Str.ofString "blank" == Str.ofString "write") = false := by decide +kernel
@[simp] theorem nq_blank_write : (Str.ofString "blank" = Str.ofString "write") = False := by simp only [eq_iff_iff, iff_false]; decide +kernel
@[simp] theorem ne_blank_copy : (Str.ofString "blank" == Str.ofString "copy") = false := by decide +kernel
@[simp] theorem nq_blank_copy : (Str.ofString "blank" = Str.ofString "copy") = False := by simp only [eq_iff_iff, iff_false]; decide +kernel
@[simp] theorem ne_blank_tell : (Str.ofString "blank" == Str.ofString "tell") = false := by decide +kernel
@[simp] theorem nq_blank_tell : (Str.ofString "blank" = Str.ofString "tell") = False := by simp only [eq_iff_iff, iff_false]; decide +kernel
@[simp] theorem ne_tell_read : (Str.ofString "tell" == Str.ofString "read") = false := by decide +kernel
@[simp] theorem nq_tell_read : (Str.ofString "tell" = Str.ofString "read") = False := by simp only [eq_iff_iff, iff_false]; decide +kernel
@[simp] theorem ne_tell_write : (Str.ofString "tell" == Str.ofString "write") = false := by decide +kernel
@[simp] theorem nq_tell_write : (Str.ofString "tell" = Str.ofString "write") = False := by simp only [eq_iff_iff, iff_false]; decide +kernel
@[simp] theorem ne_tell_copy : (Str.ofString "tell" == Str.ofString "copy") = false := by decide +kernel
@[simp] theorem nq_tell_copy : (Str.ofString "tell" = Str.ofString "copy") = False := by simp only [eq_iff_iff, iff_false]; decide +kernel
@[simp] theorem ne_tell_blank : (Str.ofString "tell" == Str.ofString "blank") = false := by decide +kernel
@[simp] theorem nq_tell_blank : (Str.ofString "tell" = Str.ofString "blank") = False := by simp only [eq_iff_iff, iff_false]; decide +kernel
@[simp] theorem szl0 : ((0 : Nat) < sizeLine) = True := by simp only [eq_iff_iff, iff_true]; decide
@[simp] theorem sze0 : ((0 : Nat) ≤ sizeLine) = True := by simp only [eq_iff_iff, iff_true]; decide
@[simp] theorem szl1 : ((1 : Nat) < sizeLine) = True := by simp only [eq_iff_iff, iff_true]; decide
@[simp] theorem sze1 : ((1 : Nat) ≤ sizeLine) = True := by simp only [eq_iff_iff, iff_true]; decide
@[simp] theorem szl2 : ((2 : Nat) < sizeLine) = True := by simp only [eq_iff_iff, iff_true]; decide
@[simp] theorem sze2 : ((2 : Nat) ≤ sizeLine) = True := by simp only [eq_iff_iff, iff_true]; decide
@[simp] theorem szl3 : ((3 : Nat) < sizeLine) = True := by simp only [eq_iff_iff, iff_true]; decide
@[simp] theorem sze3 : ((3 : Nat) ≤ sizeLine) = True := by simp only [eq_iff_iff, iff_true]; decide
@[simp] theorem szl4 : ((4 : Nat) < sizeLine) = True := by simp only [eq_iff_iff, iff_true]; decide
@[simp] theorem sze4 : ((4 : Nat) ≤ sizeLine) = True := by simp only [eq_iff_iff, iff_true]; decide
@[simp] theorem szl5 : ((5 : Nat) < sizeLine) = True := by simp only [eq_iff_iff, iff_true]; decide
@[simp] theorem sze5 : ((5 : Nat) ≤ sizeLine) = True := by simp only [eq_iff_iff, iff_true]; decide
@[simp] theorem szl6 : ((6 : Nat) < sizeLine) = True := by simp only [eq_iff_iff, iff_true]; decide
@[simp] theorem sze6 : ((6 : Nat) ≤ sizeLine) = True := by simp only [eq_iff_iff, iff_true]; decide
@[simp] theorem szl7 : ((7 : Nat) < sizeLine) = True := by simp only [eq_iff_iff, iff_true]; decide
@[simp] theorem sze7 : ((7 : Nat) ≤ sizeLine) = True := by simp only [eq_iff_iff, iff_true]; decide
@[simp] theorem szl8 : ((8 : Nat) < sizeLine) = True := by simp only [eq_iff_iff, iff_true]; decide
@[simp] theorem sze8 : ((8 : Nat) ≤ sizeLine) = True := by simp only [eq_iff_iff, iff_true]; decide
@[simp] theorem szl9 : ((9 : Nat) < sizeLine) = True := by simp only [eq_iff_iff, iff_true]; decide
@[simp] theorem sze9 : ((9 : Nat) ≤ sizeLine) = True := by simp only [eq_iff_iff, iff_true]; decide
@[simp] theorem szl10 : ((10 : Nat) < sizeLine) = True := by simp only [eq_iff_iff, iff_true]; decide
@[simp] theorem sze10 : ((10 : Nat) ≤ sizeLine) = True := by simp only [eq_iff_iff, iff_true]; decide
@[simp] theorem szl11 : ((11 : Nat) < sizeLine) = True := by simp only [eq_iff_iff, iff_true]; decide
@[simp] theorem sze11 : ((11 : Nat) ≤ sizeLine) = True := by simp only [eq_iff_iff, iff_true]; decide
@[simp] theorem szl12 : ((12 : Nat) < sizeLine) = True := by simp only [eq_iff_iff, iff_true]; decide
@[simp] theorem sze12 : ((12 : Nat) ≤ sizeLine) = True := by simp only [eq_iff_iff, iff_true]; decide
@[simp] theorem szl13 : ((13 : Nat) < sizeLine) = True := by simp only [eq_iff_iff, iff_true]; decide
@[simp] theorem sze13 : ((13 : Nat) ≤ sizeLine) = True := by simp only [eq_iff_iff, iff_true]; decide
@[simp] theorem szl14 : ((14 : Nat) < sizeLine) = True := by simp only [eq_iff_iff, iff_true]; decide
@[simp] theorem sze14 : ((14 : Nat) ≤ sizeLine) = True := by simp only [eq_iff_iff, iff_true]; decide
@[simp] theorem szl15 : ((15 : Nat) < sizeLine) = True := by simp only [eq_iff_iff, iff_true]; decide
@[simp] theorem sze15 : ((15 : Nat) ≤ sizeLine) = True := by simp only [eq_iff_iff, iff_true]; decide
@[simp] theorem szl16 : ((16 : Nat) < sizeLine) = True := by simp only [eq_iff_iff, iff_true]; decide
@[simp] theorem sze16 : ((16 : Nat) ≤ sizeLine) = True := by simp only [eq_iff_iff, iff_true]; decide
@[simp] theorem szl17 : ((17 : Nat) < sizeLine) = True := by simp only [eq_iff_iff, iff_true]; decide
@[simp] theorem sze17 : ((17 : Nat) ≤ sizeLine) = True := by simp only [eq_iff_iff, iff_true]; decide
@[simp] theorem szl18 : ((18 : Nat) < sizeLine) = True := by simp only [eq_iff_iff, iff_true]; decide
@[simp] theorem sze18 : ((18 : Nat) ≤ sizeLine) = True := by simp only [eq_iff_iff, iff_true]; decide
@[simp] theorem szl19 : ((19 : Nat) < sizeLine) = True := by simp only [eq_iff_iff, iff_true]; decide
@[simp] theorem sze19 : ((19 : Nat) ≤ sizeLine) = True := by simp only [eq_iff_iff, iff_true]; decide
@[simp] theorem szl20 : ((20 : Nat) < sizeLine) = True := by simp only [eq_iff_iff, iff_true]; decide
@[simp] theorem sze20 : ((20 : Nat) ≤ sizeLine) = True := by simp only [eq_iff_iff, iff_true]; decide
@[simp] theorem szl21 : ((21 : Nat) < sizeLine) = True := by simp only [eq_iff_iff, iff_true]; decide
@[simp] theorem sze21 : ((21 : Nat) ≤ sizeLine) = True := by simp only [eq_iff_iff, iff_true]; decide
@[simp] theorem szl22 : ((22 : Nat) < sizeLine) = True := by simp only [eq_iff_iff, iff_true]; decide
@[simp] theorem sze22 : ((22 : Nat) ≤ sizeLine) = True := by simp only [eq_iff_iff, iff_true]; decide
@[simp] theorem szl23 : ((23 : Nat) < sizeLine) = True := by simp only [eq_iff_iff, iff_true]; decide
@[simp] theorem sze23 : ((23 : Nat) ≤ sizeLine) = True := by simp only [eq_iff_iff, iff_true]; decide
@[simp] theorem szl24 : ((24 : Nat) < sizeLine) = True := by simp only [eq_iff_iff, iff_true]; decide
@[simp] theorem sze24 : ((24 : Nat) ≤ sizeLine) = True := by simp only [eq_iff_iff, iff_true]; decide
@[simp] theorem szl25 : ((25 : Nat) < sizeLine) = True := by simp only [eq_iff_iff, iff_true]; decide
@[simp] theorem sze25 : ((25 : Nat) ≤ sizeLine) = True := by simp only [eq_iff_iff, iff_true]; decide
@[simp] theorem szl26 : ((26 : Nat) < sizeLine) = True := by simp only [eq_iff_iff, iff_true]; decide
@[simp] theorem sze26 : ((26 : Nat) ≤ sizeLine) = True := by simp only [eq_iff_iff, iff_true]; decide
@[simp] theorem szl27 : ((27 : Nat) < sizeLine) = True := by simp only [eq_iff_iff, iff_true]; decide
@[simp] theorem sze27 : ((27 : Nat) ≤ sizeLine) = True := by simp only [eq_iff_iff, iff_true]; decide
@[simp] theorem szl28 : ((28 : Nat) < sizeLine) = True := by simp only [eq_iff_iff, iff_true]; decide
@[simp] theorem sze28 : ((28 : Nat) ≤ sizeLine) = True := by simp only [eq_iff_iff, iff_true]; decide
@[simp] theorem szl29 : ((29 : Nat) < sizeLine) = True := by simp only [eq_iff_iff, iff_true]; decide
@[simp] theorem sze29 : ((29 : Nat) ≤ sizeLine) = True := by simp only [eq_iff_iff, iff_true]; decide
@[simp] theorem szl30 : ((30 : Nat) < sizeLine) = True := by simp only [eq_iff_iff, iff_true]; decide
@[simp] theorem sze30 : ((30 : Nat) ≤ sizeLine) = True := by simp only [eq_iff_iff, iff_true]; decide
theorem opEq_ok {p q : P} (h1 : fin dpt p = true) (h2 : fin dpt q = true) : opEq p q = some (.bl (eqv p q)) := by simp only [opEq, h1, h2, and_self, if_true]
theorem opNe_ok {p q : P} (h1 : fin dpt p = true) (h2 : fin dpt q = true) : opNe p q = some (.bl (!eqv p q)) := by simp only [opNe, h1, h2, and_self, if_true]
theorem sm_dpt {n : Nat} {p : P} (h : sm n p = true) (hn : n ≤ 24 := by decide) : fin dpt p = true := fin_mono (sm_fin n p h) hn
theorem cutD_tail {α : Type} (x : α) (xs : List α) : cutD (x :: xs) (some 1) none = xs := by
  simp [cutD, HT.sIx]
section
variable {S : Store} {E : Xc → Store → Prop} {R : D → Store → Prop} {sl : Slots}
@[simp] theorem w_callL {tab : FnTab} {i : Nat} {ma : MA} : (eCallL tab i ma sl S).sx E R = match sl[i]? with
    | some (some (.p (.glo g))) => opt (fnAt tab g) fun q => (eCall q.1 q.2 ma sl S).sx E R
    | _ => False := by
  unfold eCallL
  cases sl[i]? with
  | none => simp
  | some o =>
    cases o with
    | none => simp
    | some d =>
      cases d with
      | ref n => simp
      | p q =>
        cases q <;> first
          | (simp; done)
          | skip
        rename_i g
        simp only []
        cases fnAt tab g <;> simp
end
section
variable {S : Store} {sl : Slots} {E : Xc → Store → Prop} {Q : List P → Store → Prop} {eff : Eff} {me : M} {own : List Nat} {t : MT}
@[simp] theorem w_lcN {acc : List P} : (lcL eff t me own sl [] acc S).sx E Q = Q acc S := by simp [lcL]
@[simp] theorem w_lcC {q : P} {qs acc : List P} : (lcL eff tYes me own sl (q :: qs) acc S).sx E Q = opt (eff q (wipeS sl own)) fun sl1 => (me sl1 S).sx noE fun d S1 => match d with
    | .p z => acc.length < sizeLine ∧ (lcL eff tYes me own sl qs (acc ++ [z]) S1).sx E Q
    | .ref _ => False := by
  simp only [lcL]
  cases eff q (wipeS sl own) with
  | none => simp
  | some sl1 =>
    simp only [opt_some, tYes]
    cases me sl1 S with
    | ok d S1 =>
      cases d with
      | p z =>
        simp only [sx_ok, cnd_sx]
      | ref n => simp
    | exc _ _ => simp
    | no => simp
theorem len1 {α : Type} {l : List α} (h : l.length = 1) : ∃ a, l = [a] := by
  match l, h with
  | [a], _ => exact ⟨a, rfl⟩
theorem len3 {α : Type} {l : List α} (h : l.length = 3) : ∃ a b c, l = [a, b, c] := by
  match l, h with
  | [a, b, c], _ => exact ⟨a, b, c, rfl⟩
theorem len4 {α : Type} {l : List α} (h : l.length = 4) : ∃ a b c d, l = [a, b, c, d] := by
  match l, h with
  | [a, b, c, d], _ => exact ⟨a, b, c, d, rfl⟩
theorem len5 {α : Type} {l : List α} (h : l.length = 5) : ∃ a b c d e, l = [a, b, c, d, e] := by
  match l, h with
  | [a, b, c, d, e], _ => exact ⟨a, b, c, d, e, rfl⟩
end
/-- the forms of steps -/
def isStepW (w : Str) (ps : List P) : Bool :=
  if w = "read" then (match ps with | [a, b, c, d] => isNameP a && (isKindP b && (isNameP c && isOffP d)) | _ => false)
  else if w = "write" then (match ps with | [a, b, c, d] => isKindP a && (isNameP b && (isOffP c && isValP d)) | _ => false)
  else if w = "copy" then (match ps with | [a, b, c, d, e] => isManyP a && (isNameP b && (isOffP c && (isNameP d && isOffP e))) | _ => false)
  else if w = "blank" then (match ps with | [a, b, c] => isManyP a && (isNameP b && isOffP c) | _ => false)
  else if w = "tell" then (match ps with | [a] => isNameP a | _ => false)
  else false
def isStepP : P → Bool
  | .tup (.str w :: ps) => isStepW w ps
  | _ => false
theorem sm_tup {n : Nat} {ps : List P} (h : sm n (.tup ps) = true) : ps.length ≤ 1000 ∧ ∃ m, n = m + 1 ∧ ∀ p ∈ ps, sm m p = true := by
  cases n with
  | zero => simp [sm] at h
  | succ m => simp [sm] at h; exact ⟨h.1, m, rfl, h.2⟩
end Z
namespace Kw
open PySem PySem.Spec PyProof.Rows L2 Z
section
variable {S : Store} {n : Nat} {p : Z.P}
abbrev CK : FnTab := [("is_name", 1, f_is_name), ("is_kind", 1, f_is_kind), ("is_offset", 1, f_is_offset), ("is_value", 1, f_is_value), ("is_many", 1, f_is_many)]
theorem ck1 : fnAt CK (Str.ofString "is_name") = some (1, f_is_name) := by kernel_rfl
theorem ck2 : fnAt CK (Str.ofString "is_kind") = some (1, f_is_kind) := by kernel_rfl
theorem ck3 : fnAt CK (Str.ofString "is_offset") = some (1, f_is_offset) := by kernel_rfl
theorem ck4 : fnAt CK (Str.ofString "is_value") = some (1, f_is_value) := by kernel_rfl
theorem ck5 : fnAt CK (Str.ofString "is_many") = some (1, f_is_many) := by kernel_rfl
theorem pt1 : tabAt t_PARTS (Str.ofString "read") = some (.tup ["is_name", "is_kind", "is_name", "is_offset"]) := by kernel_rfl
theorem pt2 : tabAt t_PARTS (Str.ofString "write") = some (.tup ["is_kind", "is_name", "is_offset", "is_value"]) := by kernel_rfl
theorem pt3 : tabAt t_PARTS (Str.ofString "copy") = some (.tup ["is_many", "is_name", "is_offset", "is_name", "is_offset"]) := by kernel_rfl
theorem pt4 : tabAt t_PARTS (Str.ofString "blank") = some (.tup ["is_many", "is_name", "is_offset"]) := by kernel_rfl
theorem pt5 : tabAt t_PARTS (Str.ofString "tell") = some (.tup ["is_name"]) := by kernel_rfl
theorem pt0 {w : Str} (h1 : w ≠ "read") (h2 : w ≠ "write") (h3 : w ≠ "copy") (h4 : w ≠ "blank") (h5 : w ≠ "tell") : tabAt t_PARTS w = none := by
  simp only [tabAt, t_PARTS, List.find?, Option.map_eq_none_iff]
  simp [Ne.symm h1, Ne.symm h2, Ne.symm h3, Ne.symm h4, Ne.symm h5]
theorem is_step_eq (h : sm n p = true) : f_is_step [.p p] S = .ok (.p (.bl (isStepP p))) S := by
  apply Rs.sx.eq
  unfold f_is_step b_is_step
  rw [w_runB]
  cases p <;> first | (cases n <;> simp [sm] at h; done) | skip
  case tup ps =>
    obtain ⟨hl, m, rfl, hs⟩ := sm_tup h
    cases ps with
    | nil => simp [List.replicate, isStepP]
    | cons q ps =>
      have hq := hs q (List.mem_cons_self ..)
      have hs : ∀ p ∈ ps, sm m p = true := fun p hp => hs p (List.mem_cons_of_mem _ hp)
      cases q <;> first | (cases m <;> simp [sm] at hq; done) | skip
      case str w =>
        simp [List.replicate, ixP, isStepP, show ¬ ((ps.length : Int) + 1 = 0) by omega]
        by_cases h1 : w = "read"
        · subst h1
          by_cases hn : ps.length = 4
          · obtain ⟨a, b, c, d, rfl⟩ := len4 hn
            have ha := hs a (by simp)
            have hb := hs b (by simp)
            have hc := hs c (by simp)
            have hd := hs d (by simp)
            simp [pt1, Ent.p, slP, cutD_tail, zipP, effT, effsC, effsN, wipeS, ck1, ck2, ck3, ck4, ck5, is_name_eq ha, is_kind_eq ha, is_offset_eq ha, is_value_eq ha, is_many_eq ha, is_name_eq hb, is_kind_eq hb, is_offset_eq hb, is_value_eq hb, is_many_eq hb, is_name_eq hc, is_kind_eq hc, is_offset_eq hc, is_value_eq hc, is_many_eq hc, is_name_eq hd, is_kind_eq hd, is_offset_eq hd, is_value_eq hd, is_many_eq hd, allP, boolsOf, isStepW]
          · simp [pt1, Ent.p, show ¬ ((ps.length : Int) + 1 = 5) by omega, isStepW]
            split
            · simp at hn
            · rfl
        by_cases h2 : w = "write"
        · subst h2
          by_cases hn : ps.length = 4
          · obtain ⟨a, b, c, d, rfl⟩ := len4 hn
            have ha := hs a (by simp)
            have hb := hs b (by simp)
            have hc := hs c (by simp)
            have hd := hs d (by simp)
            simp [pt2, Ent.p, slP, cutD_tail, zipP, effT, effsC, effsN, wipeS, ck1, ck2, ck3, ck4, ck5, is_name_eq ha, is_kind_eq ha, is_offset_eq ha, is_value_eq ha, is_many_eq ha, is_name_eq hb, is_kind_eq hb, is_offset_eq hb, is_value_eq hb, is_many_eq hb, is_name_eq hc, is_kind_eq hc, is_offset_eq hc, is_value_eq hc, is_many_eq hc, is_name_eq hd, is_kind_eq hd, is_offset_eq hd, is_value_eq hd, is_many_eq hd, allP, boolsOf, isStepW]
          · simp [pt2, Ent.p, show ¬ ((ps.length : Int) + 1 = 5) by omega, isStepW]
            split
            · simp at hn
            · rfl
        by_cases h3 : w = "copy"
        · subst h3
          by_cases hn : ps.length = 5
          · obtain ⟨a, b, c, d, e, rfl⟩ := len5 hn
            have ha := hs a (by simp)
            have hb := hs b (by simp)
            have hc := hs c (by simp)
            have hd := hs d (by simp)
            have he := hs e (by simp)
            simp [pt3, Ent.p, slP, cutD_tail, zipP, effT, effsC, effsN, wipeS, ck1, ck2, ck3, ck4, ck5, is_name_eq ha, is_kind_eq ha, is_offset_eq ha, is_value_eq ha, is_many_eq ha, is_name_eq hb, is_kind_eq hb, is_offset_eq hb, is_value_eq hb, is_many_eq hb, is_name_eq hc, is_kind_eq hc, is_offset_eq hc, is_value_eq hc, is_many_eq hc, is_name_eq hd, is_kind_eq hd, is_offset_eq hd, is_value_eq hd, is_many_eq hd, is_name_eq he, is_kind_eq he, is_offset_eq he, is_value_eq he, is_many_eq he, allP, boolsOf, isStepW]
          · simp [pt3, Ent.p, show ¬ ((ps.length : Int) + 1 = 6) by omega, isStepW]
            split
            · simp at hn
            · rfl
        by_cases h4 : w = "blank"
        · subst h4
          by_cases hn : ps.length = 3
          · obtain ⟨a, b, c, rfl⟩ := len3 hn
            have ha := hs a (by simp)
            have hb := hs b (by simp)
            have hc := hs c (by simp)
            simp [pt4, Ent.p, slP, cutD_tail, zipP, effT, effsC, effsN, wipeS, ck1, ck2, ck3, ck4, ck5, is_name_eq ha, is_kind_eq ha, is_offset_eq ha, is_value_eq ha, is_many_eq ha, is_name_eq hb, is_kind_eq hb, is_offset_eq hb, is_value_eq hb, is_many_eq hb, is_name_eq hc, is_kind_eq hc, is_offset_eq hc, is_value_eq hc, is_many_eq hc, allP, boolsOf, isStepW]
          · simp [pt4, Ent.p, show ¬ ((ps.length : Int) + 1 = 4) by omega, isStepW]
            split
            · simp at hn
            · rfl
        by_cases h5 : w = "tell"
        · subst h5
          by_cases hn : ps.length = 1
          · obtain ⟨a, rfl⟩ := len1 hn
            have ha := hs a (by simp)
            simp [pt5, Ent.p, slP, cutD_tail, zipP, effT, effsC, effsN, wipeS, ck1, ck2, ck3, ck4, ck5, is_name_eq ha, is_kind_eq ha, is_offset_eq ha, is_value_eq ha, is_many_eq ha, allP, boolsOf, isStepW]
          · simp [pt5, Ent.p, show ¬ ((ps.length : Int) + 1 = 2) by omega, isStepW]
            split
            · simp at hn
            · rfl
        simp [pt0 h1 h2 h3 h4 h5, isStepW, h1, h2, h3, h4, h5]
      all_goals simp [List.replicate, isStepP, ixP, show ¬ ((ps.length : Int) + 1 = 0) by omega]
  all_goals simp [List.replicate, isStepP]
end
end Kw

namespace Z
open PySem PySem.Spec PyProof.Rows L2
theorem chOk_mem {z : Str} (h : chOk z = true) : ∀ c ∈ cs z, c < 0x110000 := fun c hc => by
  unfold chOk PyData.strOk at h
  unfold cs at hc
  have := Array.all_eq_true'.mp h c (by simpa using hc)
  simpa using this
theorem chOk_of {z : Str} (h : ∀ c ∈ cs z, c < 0x110000) : chOk z = true := by
  unfold chOk PyData.strOk
  refine Array.all_eq_true'.mpr fun c hc => ?_
  simpa using h c (by unfold cs; simpa using hc)
theorem chOk_one {c : Nat} (h : c < 0x110000) : chOk ⟨#[c]⟩ = true := chOk_of (by intro x hx; simp [cs] at hx; omega)
theorem cs_append (x y : Str) : cs (x ++ y) = cs x ++ cs y := by
  show (x.cps ++ y.cps).toList = _
  simp [cs]
theorem len_append (x y : Str) : (x ++ y).length = x.length + y.length := by rw [← cs_len, cs_append, List.length_append, cs_len, cs_len]
theorem chOk_append {x y : Str} (h : chOk x = true) (h' : chOk y = true) : chOk (x ++ y) = true := chOk_of fun c hc => by
  rw [cs_append] at hc
  rcases List.mem_append.mp hc with hc | hc
  · exact chOk_mem h c hc
  · exact chOk_mem h' c hc
theorem cs_cut (z : Str) (lo hi : Option Int) : cs (cutS z lo hi) = cutD (cs z) lo hi := by
  unfold cs cutS cutD
  rw [str_size]
theorem chOk_cut {z : Str} (h : chOk z = true) (lo hi : Option Int) : chOk (cutS z lo hi) = true := chOk_of fun c hc => by
  rw [cs_cut] at hc
  unfold cutD at hc
  exact chOk_mem h c (List.mem_of_mem_drop (List.mem_of_mem_take hc))
theorem fin_chars {xs : List Nat} (h : ∀ c ∈ xs, c < 0x110000) : fin dpt (.lst (xs.map ch)) = true := by
  show (xs.map ch).all (fin 23) = true
  refine List.all_eq_true.mpr fun d hd => ?_
  obtain ⟨c, hc, rfl⟩ := List.mem_map.mp hd
  exact chOk_one (h c hc)
theorem eqv_nil {xs : List P} : eqv (.lst xs) (.lst []) = xs.isEmpty := by cases xs <;> simp [eqv, eqvAll]
theorem litL : Str.ofString "abcdefghijklmnopqrstuvwxyz" = LOWERS := rfl
theorem litF : Str.ofString "0123456789" = FIGS := rfl
theorem litS : Str.ofString "abcdefghijklmnopqrstuvwxyz0123456789" = SIGNS := rfl
theorem signs_split : cs SIGNS = cs LOWERS ++ cs FIGS := by decide +kernel
theorem mem_signs (c : Nat) : mem c SIGNS = (mem c LOWERS || mem c FIGS) := by
  unfold mem
  rw [signs_split]
  simp
theorem fig4 : ∀ c : Nat, mem c "1234" = (mem c FIGS && (decide (1 ≤ (c : Int) - 48) && decide ((c : Int) - 48 ≤ 4))) := by
  intro c
  have e1 : cs FIGS = [48, 49, 50, 51, 52, 53, 54, 55, 56, 57] := by decide +kernel
  have e2 : cs (Str.ofString "1234") = [49, 50, 51, 52] := by decide +kernel
  unfold mem
  rw [e1, e2, Bool.eq_iff_iff]
  simp
  omega
/-- the chars of a text that are not among some -/
theorem out_eq {z y : Str} : ((cs z).filter fun c => !mem c y).isEmpty = conS z y := by
  unfold conS
  rw [Bool.eq_iff_iff, List.isEmpty_iff, List.filter_eq_nil_iff, List.all_eq_true]
  simp
end Z
namespace Kw
open PySem PySem.Spec PyProof.Rows L2 Z
section
variable {S : Store} {n : Nat} {p : Z.P}
theorem filt {z y : Str} {sl : Slots} {me : M} {i : Nat} (hz : z.length ≤ sizeLine) (h : ∀ c, (sl.set i none).set i (some (.p (ch c))) = sl.set i (some (.p (ch c)))) (hg : ∀ c, (sl.set i (some (.p (ch c))))[i]? = some (some (.p (ch c)))) :
    lcL (effN i) (tIn true (eV i) (eK (.str y))) (eV i) [i] sl (chars z) [] S = .ok (((cs z).filter fun c => !mem c y).map ch) S := by
  have key : ∀ m : Slots → Store → Rs Bool, ∀ b sl S, (m sl S).sx noE (fun a S' => a = b ∧ S' = S) → m sl S = .ok b S := fun m b sl S h => by
    obtain ⟨a, S', e, rfl, rfl⟩ := h.ok
    exact e
  rw [lc_filter (fun q => !mem (unch q) y) id]
  · rw [chars_cs, List.filter_map, List.map_id]
    rfl
  · intro q hq
    rw [chars_cs] at hq
    obtain ⟨c, hc, rfl⟩ := List.mem_map.mp hq
    refine ⟨_, rfl, ?_, fun _ => ?_⟩
    · apply key (tIn true (eV i) (eK (.str y)))
      simp only [wipeS, h, w_tIn, w_in, w_v, hg, w_k, nin_ch, w_asB, unch_ch, and_self]
    · apply Rs.sx.eq
      simp only [wipeS, h, w_v, hg, id, and_self]
  · rw [chars_cs, List.length_map, cs_len]; simpa using hz
theorem opEq_y {y : Str} (h : fin dpt p = true) (h2 : chOk y = true) : opEq p (.str y) = some (.bl (eqv p (.str y))) := opEq_ok h h2
theorem eqv_str {y : Str} (h : eqv p (.str y) = true) : p = .str y := by
  cases p <;> simp [eqv] at h
  rw [h]
theorem eqv_self {y : Str} : eqv (.str y) (.str y) = true := by simp [eqv]
theorem ok1 : chOk (Str.ofString "read") = true := by decide +kernel
theorem ok2 : chOk (Str.ofString "write") = true := by decide +kernel
theorem ok3 : chOk (Str.ofString "copy") = true := by decide +kernel
theorem ok4 : chOk (Str.ofString "blank") = true := by decide +kernel
theorem ok5 : chOk (Str.ofString "tell") = true := by decide +kernel
theorem t_word {y : Str} {k : Int} {sl : Slots} {ps : List Z.P} (h1 : sl[1]? = some (some (.p p))) (h2 : sl[2]? = some (some (.p (.tup ps)))) (hf : fin dpt p = true) (hy : chOk y = true) :
    tAnd (tB opEq (eV 1) (eK (.str y))) (tB opEq (eF lenP (aC (eV 2) (aN))) (eK (.int k))) sl S = .ok (eqv p (.str y) && ((ps.length : Int) == k)) S := by
  have : (tAnd (tB opEq (eV 1) (eK (.str y))) (tB opEq (eF lenP (aC (eV 2) (aN))) (eK (.int k))) sl S).sx noE fun b S' => b = (eqv p (.str y) && ((ps.length : Int) == k)) ∧ S' = S := by
    simp [h1, h2, opEq_y hf hy]
    cases eqv p (.str y) <;> simp
  obtain ⟨b, S', e, rfl, rfl⟩ := this.ok
  exact e
theorem step_if {t : MT} {s1 rest : MS} {b : Bool} {sl : Slots} {S' : Store} {F : Xc → Slots → Store → Prop} {N : Slots → Store → Prop} {T : D → Store → Prop} (h : t sl S = .ok b S') (k1 : b = true → (s1 sl S').sx F (fun sl S => (rest sl S).sx F N T) T) (k0 : b = false → (rest sl S').sx F N T) : (sSeq (sIf t s1 sNil) rest sl S).sx F N T := by
  rw [w_seq, w_if, h, sx_ok]
  cases b with
  | true => rw [if_pos rfl]; exact k1 rfl
  | false => rw [if_neg (by decide), w_nil]; exact k0 rfl
theorem atI_3 {α : Type} {x y z u : α} {l : List α} : atI (x :: y :: z :: u :: l) 3 = some u := by
  have : (3 : Int) < ((l.length + 1 + 1 + 1 + 1 : Nat) : Int) := by omega
  simp only [atI, ixN, List.length_cons, if_pos this]; rfl
theorem atI_4 {α : Type} {x y z u v : α} {l : List α} : atI (x :: y :: z :: u :: v :: l) 4 = some v := by
  have : (4 : Int) < ((l.length + 1 + 1 + 1 + 1 + 1 : Nat) : Int) := by omega
  simp only [atI, ixN, List.length_cons, if_pos this]; rfl
end
end Kw

namespace Z
open PySem PySem.Spec PyProof.Rows L2
/-! ### drawn names -/
def STEMS : List Str := ["", "p", "ab1", "pointer"]
def lowAt (k : Nat) : Nat := ((cs LOWERS)[k]?).getD 0
def nameAt (stem : Str) (i beg : Nat) (k : Nat) : Str := (cutS stem none (some (i : Int)) ++ ⟨#[lowAt ((beg + 5 * k) % 26)]⟩) ++ cutS stem (some (i : Int)) none
def namesL (stem : Str) (i beg n : Nat) : List Str := (List.range n).map (nameAt stem i beg)
def VWXYZ : Str := "vwxyz"
def freshS (z : Str) (k : Nat) : Str := (cutS z none (some 6) ++ ⟨#[((cs VWXYZ)[k % 5]?).getD 0]⟩) ++ (toString ((k / 5 : Nat) : Int) : String)
def sameS (x y : Str) : Bool := x.cps.toList == y.cps.toList
def distinctB : List Str → Bool
  | [] => true
  | z :: zs => !(zs.any (sameS z)) && distinctB zs
/-- names that are unlike, and from the first of which one makes further unlike names -/
def namesOkB (zs : List Str) : Bool := zs.all (fun z => isNameS z) && (distinctB zs && (match zs with
  | [] => true
  | z :: _ => (List.range 15).all (fun k => isNameS (freshS z k) && !(zs.any (sameS (freshS z k)))) && distinctB ((List.range 15).map (freshS z))))
theorem names_all : ∀ stem ∈ STEMS, ∀ i ∈ List.range (stem.length + 1), ∀ beg ∈ List.range 26, namesOkB (namesL stem i beg 6) = true := by decide +kernel
structure NamesOk (zs : List Str) : Prop where
  nm : ∀ z ∈ zs, isNameS z = true
  nd : zs.Nodup
  fr : ∀ z, zs.head? = some z → ∀ k < 15, isNameS (freshS z k) = true ∧ freshS z k ∉ zs
  fd : ∀ z, zs.head? = some z → ∀ j < 15, ∀ k < 15, freshS z j = freshS z k → j = k
theorem sameS_iff {x y : Str} : sameS x y = true ↔ x = y := by
  unfold sameS
  rw [beq_iff_eq]
  constructor
  · intro h
    obtain ⟨⟨a⟩⟩ := x
    obtain ⟨⟨b⟩⟩ := y
    cases (show a = b from h)
    rfl
  · rintro rfl; rfl
theorem distinct_ok : ∀ {zs : List Str}, distinctB zs = true → zs.Nodup
  | [], _ => List.nodup_nil
  | z :: zs, h => by
    unfold distinctB at h
    rw [Bool.and_eq_true] at h
    refine List.nodup_cons.mpr ⟨fun hm => ?_, distinct_ok h.2⟩
    have h1 := h.1
    rw [Bool.not_eq_true', List.any_eq_false] at h1
    exact h1 z hm (sameS_iff.mpr rfl)
theorem nodup_map_inj {α : Type} {f : Nat → α} {n : Nat} (h : ((List.range n).map f).Nodup) : ∀ j < n, ∀ k < n, f j = f k → j = k := by
  intro j hj k hk e
  have key := List.pairwise_iff_getElem.mp h
  rcases Nat.lt_trichotomy j k with hl | hl | hl
  · exact absurd (by rw [List.getElem_map, List.getElem_map, List.getElem_range, List.getElem_range]; exact e) (key j k (by simpa using hj) (by simpa using hk) hl)
  · exact hl
  · exact absurd (by rw [List.getElem_map, List.getElem_map, List.getElem_range, List.getElem_range]; exact e.symm) (key k j (by simpa using hk) (by simpa using hj) hl)
theorem nodup_get {α : Type} {zs : List α} (h : zs.Nodup) {j k : Nat} {z : α} (hj : zs[j]? = some z) (hk : zs[k]? = some z) : j = k := by
  obtain ⟨h1, e1⟩ := List.getElem?_eq_some_iff.mp hj
  obtain ⟨h2, e2⟩ := List.getElem?_eq_some_iff.mp hk
  have key := List.pairwise_iff_getElem.mp h
  rcases Nat.lt_trichotomy j k with hl | hl | hl
  · exact absurd (e1.trans e2.symm) (key j k h1 h2 hl)
  · exact hl
  · exact absurd (e2.trans e1.symm) (key k j h2 h1 hl)
theorem namesOk_of {zs : List Str} (n : Nat) (h : namesOkB zs = true) : NamesOk (zs.take n) := by
  unfold namesOkB at h
  rw [Bool.and_eq_true, Bool.and_eq_true] at h
  obtain ⟨h1, h2, h3⟩ := h
  have key : ∀ z, (zs.take n).head? = some z → (∀ k < 15, isNameS (freshS z k) = true ∧ freshS z k ∉ zs.take n) ∧ ∀ j < 15, ∀ k < 15, freshS z j = freshS z k → j = k := by
    intro z hz
    cases zs with
    | nil => simp at hz
    | cons y ys =>
      cases n with
      | zero => simp at hz
      | succ n =>
        rw [List.take_succ_cons, List.head?_cons] at hz
        cases hz
        simp only [Bool.and_eq_true] at h3
        refine ⟨fun k hk => ?_, nodup_map_inj (distinct_ok h3.2)⟩
        have := List.all_eq_true.mp h3.1 k (List.mem_range.mpr hk)
        rw [Bool.and_eq_true, Bool.not_eq_true', List.any_eq_false] at this
        exact ⟨this.1, fun hm => this.2 _ (List.mem_of_mem_take hm) (sameS_iff.mpr rfl)⟩
  exact ⟨fun z hz => List.all_eq_true.mp h1 z (List.mem_of_mem_take hz), (distinct_ok h2).sublist (List.take_sublist _ _), fun z hz => (key z hz).1, fun z hz => (key z hz).2⟩
theorem namesL_take {z : Str} {i b m : Nat} (h : m ≤ 6) : namesL z i b m = (namesL z i b 6).take m := by
  unfold namesL
  rw [← List.map_take, List.take_range, Nat.min_eq_left h]
theorem namesL_ok {z : Str} {i b m : Nat} (hz : z ∈ STEMS) (hi : i ≤ z.length) (hb : b < 26) (h : m ≤ 6) : NamesOk (namesL z i b m) := by
  rw [namesL_take h]
  exact namesOk_of m (names_all z hz i (List.mem_range.mpr (by omega)) b (List.mem_range.mpr hb))
theorem name_signs {z : Str} (h : isNameS z = true) : ∀ c ∈ cs z, c ∈ cs SIGNS := by
  unfold isNameS conS at h
  simp only [Bool.and_eq_true] at h
  intro c hc
  exact of_decide_eq_true (List.all_eq_true.mp h.2.2 _ hc)
theorem signs_small : ∀ c ∈ cs SIGNS, c < 0x110000 := by decide +kernel
theorem name_ch {z : Str} (h : isNameS z = true) : chOk z = true := chOk_of fun c hc => signs_small c (name_signs h c hc)
theorem name_len {z : Str} (h : isNameS z = true) : 1 ≤ z.length ∧ z.length ≤ 8 := by
  unfold isNameS at h
  simp only [Bool.and_eq_true, decide_eq_true_eq] at h
  omega
end Z

namespace Z
open PySem PySem.Spec PyProof.Rows L2
theorem stems_len : ∀ z ∈ STEMS, z.length ≤ 7 := by decide +kernel
theorem lower_len : LOWERS.length = 26 := by decide +kernel
theorem lower_at {k : Int} (h0 : 0 ≤ k) (h : k < 26) : atI (cs LOWERS) k = some (lowAt k.toNat) := by
  have hl : (cs LOWERS).length = 26 := by rw [cs_len]; exact lower_len
  have e : (cs LOWERS)[k.toNat]? = some (cs LOWERS)[k.toNat] := List.getElem?_eq_getElem (by omega)
  simp only [atI, ixN, if_pos h0, hl, if_pos (show k < ((26 : Nat) : Int) from h), Option.bind_some, lowAt, e, Option.getD_some]
theorem opAdd_s {x y : Str} (h : x.length + y.length ≤ sizeLine) : opAdd (.str x) (.str y) = some (.str (x ++ y)) := by simp only [opAdd, if_pos h]
theorem sl_le {n : Nat} (h : n ≤ 1000) : n ≤ sizeLine := Nat.le_trans h (by decide)
theorem sl_lt {n : Nat} (h : n ≤ 1000) : n < sizeLine := Nat.lt_of_le_of_lt h (by decide)
theorem len_one {c : Nat} : Str.length ⟨#[c]⟩ = 1 := rfl
theorem loop_i {F : Xc → Slots → Store → Prop} {N : Slots → Store → Prop} {T : D → Store → Prop} {eff : Eff} {mb : MS} {its : List P} (J : Nat → Slots → Store → Prop) (step : ∀ i q sl S, its[i]? = some q → J i sl S → ∃ sl1, eff q sl = some sl1 ∧ (mb sl1 S).sx F (J (i + 1)) T) (last : ∀ sl S, J its.length sl S → N sl S) {sl : Slots} {S : Store} (h0 : J 0 sl S) : (loop eff mb its sl S).sx F N T := by
  refine loop_sx (fun qs sl S => ∃ i, qs = its.drop i ∧ i ≤ its.length ∧ J i sl S) ?_ ?_ _ _ _ ⟨0, rfl, Nat.zero_le _, h0⟩
  · rintro q qs sl S ⟨i, e, hi, hJ⟩
    have hq : its[i]? = some q := by
      have := congrArg (·[0]?) e
      simpa using this.symm
    obtain ⟨hlt, _⟩ := List.getElem?_eq_some_iff.mp hq
    obtain ⟨sl1, e1, e2⟩ := step i q sl S hq hJ
    refine ⟨sl1, e1, e2.imp (fun sl S h => ⟨i + 1, ?_, hlt, h⟩) fun _ _ h => h⟩
    have := congrArg List.tail e
    simpa using this
  · rintro sl S ⟨i, e, hi, hJ⟩
    have : i = its.length := by
      have := congrArg List.length e
      simp at this
      omega
    subst this
    exact last sl S hJ
theorem rng_get {lo : Int} {n i : Nat} {q : P} (h : (rng lo n)[i]? = some q) : i < n ∧ q = .int (lo + (i : Int)) := by
  unfold rng at h
  rw [List.getElem?_map] at h
  cases hr : (List.range n)[i]? with
  | none => rw [hr] at h; cases h
  | some a =>
    rw [hr] at h
    obtain ⟨h1, h2⟩ := List.getElem?_eq_some_iff.mp hr
    simp at h1 h2
    subst h2
    cases h
    exact ⟨h1, rfl⟩
theorem loop_r {F : Xc → Slots → Store → Prop} {N : Slots → Store → Prop} {T : D → Store → Prop} {eff : Eff} {mb : MS} {lo : Int} {n : Nat} (J : Nat → Slots → Store → Prop) (step : ∀ i sl S, i < n → J i sl S → ∃ sl1, eff (.int (lo + (i : Int))) sl = some sl1 ∧ (mb sl1 S).sx F (J (i + 1)) T) (last : ∀ sl S, J n sl S → N sl S) {sl : Slots} {S : Store} (h0 : J 0 sl S) : (loop eff mb (rng lo n) sl S).sx F N T := by
  refine loop_i J (fun i q sl S hq hJ => ?_) (fun sl S h => last sl S (by simpa using h)) h0
  obtain ⟨hi, rfl⟩ := rng_get hq
  exact step i sl S hi hJ
theorem mapO_map {α β γ : Type} {f : α → Option β} {g : γ → α} {h : γ → β} (e : ∀ x, f (g x) = some (h x)) : ∀ xs : List γ, mapO f (xs.map g) = some (xs.map h)
  | [] => rfl
  | x :: xs => by simp only [List.map_cons, mapO, e, mapO_map e xs]
theorem loop_iR {F : Xc → Slots → Store → Prop} {N : Slots → Store → Prop} {T : D → Store → Prop} {eff : Eff} {mb : MS} {its : List P} (J : Nat → Slots → Store → Prop) (step : ∀ i q sl S, its[i]? = some q → J i sl S → ∃ sl1, eff q sl = some sl1 ∧ ∀ R : Slots → Store → Prop, (∀ sl S, J (i + 1) sl S → R sl S) → (mb sl1 S).sx F R T) (last : ∀ sl S, J its.length sl S → N sl S) {sl : Slots} {S : Store} (h0 : J 0 sl S) : (loop eff mb its sl S).sx F N T :=
  loop_i J (fun i q sl S hq hJ => let ⟨sl1, e, h⟩ := step i q sl S hq hJ; ⟨sl1, e, h _ fun _ _ h => h⟩) last h0
theorem loop_rR {F : Xc → Slots → Store → Prop} {N : Slots → Store → Prop} {T : D → Store → Prop} {eff : Eff} {mb : MS} {lo : Int} {n : Nat} (J : Nat → Slots → Store → Prop) (step : ∀ i sl S, i < n → J i sl S → ∃ sl1, eff (.int (lo + (i : Int))) sl = some sl1 ∧ ∀ R : Slots → Store → Prop, (∀ sl S, J (i + 1) sl S → R sl S) → (mb sl1 S).sx F R T) (last : ∀ sl S, J n sl S → N sl S) {sl : Slots} {S : Store} (h0 : J 0 sl S) : (loop eff mb (rng lo n) sl S).sx F N T :=
  loop_r J (fun i sl S hi hJ => let ⟨sl1, e, h⟩ := step i sl S hi hJ; ⟨sl1, e, h _ fun _ _ h => h⟩) last h0
theorem app_by {F : Xc → Slots → Store → Prop} {N : Slots → Store → Prop} {T : D → Store → Prop} {sl : Slots} {S : Store} {i v : Nat} {ds0 : List D} {me : M} {m2 : MS} (P : D → Store → Prop) (hi : sl[i]? = some (some (.ref v))) (h0 : S[v]? = some (.lst ds0)) (h : ∀ R : D → Store → Prop, (∀ d S1, P d S1 → R d S1) → (me sl S).sx (atS F sl) R)
    (k : ∀ d S1, P d S1 → ∃ ds, S1[v]? = some (.lst ds) ∧ ds.length ≤ 1000 ∧ (m2 sl (S1.set v (.lst (ds ++ [d])))).sx F N T) : (sSeq (sExpr (eLm fApp (eV i) (aC me aN))) m2 sl S).sx F N T := by
  simp only [w_seq, w_expr, w_lm, w_v, hi, h0, w_aC, w_aN]
  refine h _ fun d S1 hP => ?_
  obtain ⟨ds, e1, e2, e3⟩ := k d S1 hP
  simp only [e1, fApp, if_pos (sl_lt e2), opt_some]
  exact e3
def strsC (vs : List Str) : Cell := .lst (vs.map fun z => .p (.str z))
theorem get_last {S : Store} {c : Cell} : (S ++ [c])[S.length]? = some c := by simp
theorem set_last {S : Store} {c c' : Cell} : (S ++ [c]).set S.length c' = S ++ [c'] := by simp
end Z
namespace Kw
open PySem PySem.Spec PyProof.Rows L2 Z
section
variable {S L : Store} {n : Nat} {many : Int} {E : Xc → Store → Prop} {Q : D → Store → Prop}
theorem names_sat {m : Nat} (hb : Bag S n) (hp : pureSt S) (hm : m ≤ 6) (k : ∀ zs S', zs.length = m → NamesOk zs → Upd n S S' → Q (.p (.lst (zs.map .str))) S') : (f_names [.ref n, .p (.int (m : Int))] S).sx E Q := by
  unfold f_names b_names
  refine runZ_by fun F N T _ _ hT => ?_
  refine set_by (fun d S1 => ∃ z ∈ STEMS, d = .p (.str z) ∧ Upd n S S1) ?_ ?_
  · intro R hR
    simp [List.replicate]
    refine take_raw hb (by decide) (by decide) fun d S' h0 h1 u => ?_
    obtain ⟨z, e1, e2⟩ := at_lt (xs := STEMS) h0 h1
    obtain rfl | rfl | rfl | rfl : d = 0 ∨ d = 1 ∨ d = 2 ∨ d = 3 := by omega
    all_goals (cases e1; simp [ixP, atI_3]; exact hR _ _ ⟨_, e2, rfl, u⟩)
  rintro _ S1 ⟨z, hz, rfl, u1⟩
  have hz7 := stems_len z hz
  have hzl : z.length ≤ sizeLine := sl_le (by omega)
  refine seq_by (fun sl S2 => ∃ (i b : Nat) (S1 : Store), i ≤ z.length ∧ b < 26 ∧ S2 = S1 ++ [strsC []] ∧ Upd n S S1 ∧ sl = [some (.ref n), some (.p (.int (m : Int))), some (.p (.str z)), some (.p (.int (i : Int))), some (.p (.int (b : Int))), some (.ref S1.length), none, none]) ?_ ?_
  · intro R hR
    simp [List.replicate, lenP_z hzl]
    refine take_raw (u1.bag hb) (by omega) (by omega) fun i S2 i0 i1 u2 => ?_
    try simp
    refine take_raw (u2.bag (u1.bag hb)) (by omega) (by omega) fun b S3 b0 b1 u3 => ?_
    try simp
    obtain ⟨i', rfl⟩ := Int.eq_ofNat_of_zero_le i0
    obtain ⟨b', rfl⟩ := Int.eq_ofNat_of_zero_le b0
    exact hR _ _ ⟨i', b', S3, by omega, by omega, rfl, u1.trans (u2.trans u3), rfl⟩
  rintro sl S2 ⟨i, b, S2, hi, hb26, rfl, u2, rfl⟩
  rw [w_seq]
  simp
  refine ⟨by omega, ?_⟩
  refine loop_r (fun j sl S' => ∃ (x y : Option D), S' = S2 ++ [strsC (namesL z i b j)] ∧ sl = [some (.ref n), some (.p (.int (m : Int))), some (.p (.str z)), some (.p (.int (i : Int))), some (.p (.int (b : Int))), some (.ref S2.length), x, y]) ?_ ?_ ⟨none, none, rfl, rfl⟩
  · rintro j sl S' hj ⟨x, y, rfl, rfl⟩
    refine ⟨_, rfl, ?_⟩
    have e26 : (b + 5 * (j : Int)) % 26 = ((b + 5 * j) % 26 : Nat) := by omega
    have hl1 := cutS_le z none (some (i : Int))
    have hl2 := cutS_le z (some (i : Int)) none
    refine set_by (fun d S1 => S1 = S2 ++ [strsC (namesL z i b j)] ∧ d = .p (ch (lowAt ((b + 5 * j) % 26)))) ?_ ?_
    · intro R hR
      simp [opMul_i (show -(2 ^ 64) < (j : Int) ∧ (j : Int) < 2 ^ 64 by omega), opMod_i, litL, ixP_z (z := LOWERS) (by decide)]
      rw [e26, lower_at (by omega) (by omega)]
      exact hR _ _ ⟨rfl, rfl⟩
    rintro _ _ ⟨rfl, rfl⟩
    simp [slP_z hzl, ch, strsC]
    rw [opAdd_s (sl_le (by rw [len_one]; omega)), opt_some, opAdd_s (sl_le (by rw [len_append, len_one]; omega)), opt_some]
    have e : fApp ((namesL z i b j).map fun z => D.p (.str z)) [.p (.str (nameAt z i b j))] = some (.p .non, (namesL z i b (j + 1)).map fun z => D.p (.str z)) := by
      have : (namesL z i b j).length = j := by simp [namesL]
      simp only [fApp, List.length_map, this, if_pos (sl_lt (show j ≤ 1000 by omega))]
      simp [namesL, List.range_succ]
    rw [show ((cutS z none (some (i : Int)) ++ ⟨#[lowAt ((b + 5 * j) % 26)]⟩) ++ cutS z (some (i : Int)) none) = nameAt z i b j from rfl, e]
    simp
  · rintro sl S' ⟨x, y, rfl, rfl⟩
    simp
    refine hT _ S2 _ (.lst ((namesL z i b m).map .str)) u2.len (u2.pure hp) ?_ (k _ _ (by simp [namesL]) (namesL_ok hz hi hb26 hm) u2)
    simp [fzD, u2.len, strsC]
    rw [mapO_map (h := P.str) (fun x => by simp [fzD])]
end
end Kw

namespace Z
open PySem PySem.Spec PyProof.Rows L2
/-! ### kinds -/
def KINDS : List Str := ["int4", "int2", "int1", "real4", "real2", "real1", "i4", "i2", "i1", "abcdef4", "abcdef2", "abcdef1", "half2", "byte1", "odd3", "word4"]
def szS (k : Str) : Int := (lastCp k : Int) - 48
theorem kinds_all : ∀ k ∈ KINDS, isKindS k = true := by decide +kernel
theorem kind_len {z : Str} (h : isKindS z = true) : 2 ≤ z.length ∧ z.length ≤ 7 := by
  unfold isKindS at h
  simp only [Bool.and_eq_true, decide_eq_true_eq] at h
  omega
theorem kind_sz {z : Str} (h : isKindS z = true) : 1 ≤ szS z ∧ szS z ≤ 4 := by
  unfold isKindS at h
  simp only [Bool.and_eq_true, decide_eq_true_eq] at h
  exact h.2.2.2
theorem kind_fig {z : Str} (h : isKindS z = true) : mem (lastCp z) FIGS = true := by
  unfold isKindS at h
  simp only [Bool.and_eq_true, decide_eq_true_eq] at h
  exact h.2.2.1
theorem kind_ix {z : Str} (h : isKindS z = true) : ixP (.str z) (.int (-1)) = some (ch (lastCp z)) := by
  have := kind_len h
  rw [ixP_z (sl_le (by omega)), atI_neg1 z (by omega)]; rfl
theorem kind_int {z : Str} (h : isKindS z = true) : intP [ch (lastCp z)] = some (.int (szS z)) := intP_ch (kind_fig h)
theorem atI_mp {α β : Type} {f : α → β} {xs : List α} {k : Int} (h0 : 0 ≤ k) (h : k < (xs.length : Int)) : ∃ v ∈ xs, atI (xs.map f) k = some (f v) := by
  have hl : k.toNat < xs.length := by omega
  refine ⟨xs[k.toNat], List.getElem_mem hl, ?_⟩
  simp only [atI, ixN, if_pos h0, List.length_map, if_pos h, Option.bind_some]
  rw [List.getElem?_map, List.getElem?_eq_getElem hl]
  rfl
def LETS : List Str := ["int", "real", "i", "abcdef"]
theorem lets_len : ∀ z ∈ LETS, z.length ≤ 6 := by decide +kernel
def some8 (z : Str) : List Str := [z ++ Str.ofString "4", z ++ Str.ofString "2", Str.ofString "half2", Str.ofString "byte1", Str.ofString "odd3", Str.ofString "word4", z ++ Str.ofString "1", Str.ofString "real4"]
theorem some8_all : ∀ z ∈ LETS, ∀ y ∈ some8 z, isKindS y = true := by decide +kernel
/-! ### typed steps and texts -/
inductive Stp where
  | read (x k n : Str) (o : Int)
  | write (k n : Str) (o : Int) (v : P)
  | copy (m : Int) (n : Str) (o : Int) (n' : Str) (o' : Int)
  | blank (m : Int) (n : Str) (o : Int)
  | tell (x : Str)
def Stp.p : Stp → P
  | .read x k n o => .tup [.str "read", .str x, .str k, .str n, .int o]
  | .write k n o v => .tup [.str "write", .str k, .str n, .int o, v]
  | .copy m n o n' o' => .tup [.str "copy", .int m, .str n, .int o, .str n', .int o']
  | .blank m n o => .tup [.str "blank", .int m, .str n, .int o]
  | .tell x => .tup [.str "tell", .str x]
def Stp.ok (names vals : List Str) : Stp → Prop
  | .read x k n o => isNameS x = true ∧ x ∉ names ∧ x ∉ vals ∧ isKindS k = true ∧ n ∈ names ∧ 0 ≤ o ∧ o + szS k ≤ 8
  | .write k n o v => isKindS k = true ∧ n ∈ names ∧ 0 ≤ o ∧ o + szS k ≤ 8 ∧ ((∃ i, v = .int i ∧ absI i < 10 ^ 40) ∨ ∃ x ∈ vals, v = .str x)
  | .copy m n o n' o' => 1 ≤ m ∧ n ∈ names ∧ 0 ≤ o ∧ o + m ≤ 8 ∧ n' ∈ names ∧ 0 ≤ o' ∧ o' + m ≤ 8
  | .blank m n o => 1 ≤ m ∧ n ∈ names ∧ 0 ≤ o ∧ o + m ≤ 8
  | .tell x => x ∈ vals
def Stp.made : Stp → List Str
  | .read x _ _ _ => [x]
  | _ => []
def okSteps (names : List Str) : List Str → List Stp → Prop
  | _, [] => True
  | vals, s :: ss => s.ok names vals ∧ okSteps names (vals ++ s.made) ss
def madeBy : List Stp → List Str
  | [] => []
  | s :: ss => s.made ++ madeBy ss
theorem okSteps_snoc {names : List Str} {s : Stp} : ∀ {vals : List Str} {ss : List Stp}, okSteps names vals ss → s.ok names (vals ++ madeBy ss) → okSteps names vals (ss ++ [s])
  | vals, [], _, h => ⟨by simpa [madeBy] using h, trivial⟩
  | vals, t :: ss, h, h' => ⟨h.1, okSteps_snoc h.2 (by simpa [madeBy, List.append_assoc] using h')⟩
theorem madeBy_snoc {s : Stp} : ∀ {ss : List Stp}, madeBy (ss ++ [s]) = madeBy ss ++ s.made
  | [] => by simp [madeBy]
  | t :: ss => by simp [madeBy, madeBy_snoc (ss := ss)]
structure Txt where
  places : List (Str × Str)
  ptrs : List Str
  steps : List Stp
def placeP (q : Str × Str) : P := .tup [.str q.1, .str q.2]
def Txt.names (t : Txt) : List Str := t.places.map (·.1) ++ t.ptrs
def Txt.pl (t : Txt) : P := .tup (t.places.map placeP)
def Txt.pt (t : Txt) : P := .tup (t.ptrs.map .str)
def Txt.st (t : Txt) : P := .tup (t.steps.map Stp.p)
structure Txt.ok (t : Txt) : Prop where
  pl : t.places.length ≤ 2
  pt : t.ptrs.length ≤ 3
  nl : t.names.length ≤ 4
  nm : ∀ z ∈ t.names, isNameS z = true
  nd : t.names.Nodup
  kd : ∀ q ∈ t.places, isKindS q.2 = true
  sl : t.steps.length ≤ 12
  st : okSteps t.names [] t.steps
def roomI (zs : List Str) : Int := if (zs.length : Int) < 3 then 8 else 4
theorem room_le (zs : List Str) : 4 ≤ roomI zs ∧ roomI zs ≤ 8 := by unfold roomI; split <;> omega
def habP (q : Str × Int) : D := .p (.tup [.str q.1, .int q.2])
def habC (hs : List (Str × Str × Int)) : Cell := .dic false (hs.map fun q => .str q.1) (hs.map fun q => habP q.2)
theorem hab_look {hs : List (Str × Str × Int)} {z : Str} (h : z ∈ hs.map (·.1)) : ∃ q, (∃ z', (z', q) ∈ hs) ∧ lookL (hs.map fun q => P.str q.1) (hs.map fun q => habP q.2) (.str z) = some (habP q) := by
  induction hs with
  | nil => simp at h
  | cons r hs ih =>
    simp only [List.map_cons, lookL]
    by_cases e : r.1 = z
    · subst e
      exact ⟨r.2, ⟨r.1, List.mem_cons_self ..⟩, by rw [if_pos rfl]⟩
    · have : ¬ (P.str r.1 = P.str z) := fun h => e (by cases h; rfl)
      rw [if_neg this]
      obtain ⟨q, ⟨z', h1⟩, h2⟩ := ih (by
        rcases List.mem_cons.mp h with h | h
        · exact absurd h.symm e
        · exact h)
      exact ⟨q, ⟨z', List.mem_cons_of_mem _ h1⟩, h2⟩
end Z
namespace Kw
open PySem PySem.Spec PyProof.Rows L2 Z
section
variable {S L : Store} {n : Nat} {many : Int} {E : Xc → Store → Prop} {Q : D → Store → Prop}
theorem kinds_tail {m : Nat} {S1 S2 : Store} {d : D} {z : Str} {F : Xc → Slots → Store → Prop} {N : Slots → Store → Prop} (hb : Bag S n) (hm : m ≤ 100) (u1 : Upd n S S1) (hd : S1 = S2 ∧ ∃ l8 : List Str, (∀ y ∈ l8, isKindS y = true) ∧ l8.length = 8 ∧ d = .p (.lst (l8.map .str))) (k : ∀ (ks : List Str) S', ks.length = m → (∀ z ∈ ks, isKindS z = true) → Upd n S S' → Q (.p (.lst (ks.map .str))) S') :
    (sSeq (sRet (eLc (iR1 (eV 1)) (effN 4) tYes (eIx (eV 3) (eCall 2 f_take (aC (eV 0) (aC (eK (.int 8)) (aN))))) [4])) (sNil) [some (.ref n), some (.p (.int (m : Int))), some (.p (.str z)), some d, none] S2).sx F N Q := by
  obtain ⟨h1, l8, h8, hl8, h2⟩ := hd
  subst h1
  subst h2
  simp [List.replicate]
  refine ⟨by omega, ?_⟩
  refine lc_sx (fun its acc S' => ∃ ks : List Str, acc = ks.map .str ∧ ks.length + its.length = m ∧ (∀ z ∈ ks, isKindS z = true) ∧ Upd n S S') ?_ ?_ _ _ _ ⟨[], rfl, by simp, by simp, u1⟩
  · rintro q qs acc S' ⟨ks, rfl, hl, hk, u⟩
    simp at hl
    have hlen : (ks.map P.str).length < sizeLine := by rw [List.length_map]; exact sl_lt (by omega)
    refine ⟨hlen, _, rfl, ?_⟩
    simp only [wipeS, w_ix, w_v, w_call, w_aC, w_k, w_aN, List.set_cons_succ, List.set_cons_zero, List.getElem?_cons_succ, List.getElem?_cons_zero, List.length_cons, List.length_nil, true_and]
    refine take_raw (u.bag hb) (by decide) (by decide) fun d S' h0 h1 u' => ?_
    obtain ⟨v, hv, e⟩ := atI_mp (f := P.str) (xs := l8) h0 (by omega)
    rw [ix_pp]
    simp only [ixP, e, opt_some]
    exact ⟨_, rfl, ks ++ [v], by simp, by simp; omega, by
      intro z hz
      rcases List.mem_append.mp hz with hz | hz
      · exact hk z hz
      · simp at hz; subst hz; exact h8 _ hv, u.trans u'⟩
  · rintro acc S' ⟨ks, rfl, hl, hk, u⟩
    exact k ks S' (by simpa using hl) hk u
theorem kinds_sat {m : Nat} (hb : Bag S n) (hm : m ≤ 100) (k : ∀ (ks : List Str) S', ks.length = m → (∀ z ∈ ks, isKindS z = true) → Upd n S S' → Q (.p (.lst (ks.map .str))) S') : (f_kinds [.ref n, .p (.int (m : Int))] S).sx E Q := by
  unfold f_kinds b_kinds
  refine runB_by fun F N _ _ => ?_
  refine set_by (fun d S1 => ∃ z ∈ LETS, d = .p (.str z) ∧ Upd n S S1) ?_ ?_
  · intro R hR
    simp [List.replicate]
    refine take_raw hb (by decide) (by decide) fun d S' h0 h1 u => ?_
    obtain ⟨z, e1, e2⟩ := at_lt (xs := LETS) h0 h1
    obtain rfl | rfl | rfl | rfl : d = 0 ∨ d = 1 ∨ d = 2 ∨ d = 3 := by omega
    all_goals (cases e1; simp [ixP, atI_3]; exact hR _ _ ⟨_, e2, rfl, u⟩)
  rintro _ S1 ⟨z, hz, rfl, u1⟩
  have hzl : z.length ≤ 6 := lets_len z hz
  have l4 : Str.length (Str.ofString "4") = 1 := by decide +kernel
  have l2 : Str.length (Str.ofString "2") = 1 := by decide +kernel
  have l1 : Str.length (Str.ofString "1") = 1 := by decide +kernel
  have h8 : ∀ y ∈ some8 z, isKindS y = true := some8_all z hz
  refine set_by (fun d S2 => S1 = S2 ∧ ∃ l8 : List Str, (∀ y ∈ l8, isKindS y = true) ∧ l8.length = 8 ∧ d = .p (.lst (l8.map .str))) ?_ ?_
  · intro R hR
    simp only [w_lst, w_aC, w_b, w_k, w_v, w_lift2, w_aN, viewP, opt_some, List.replicate, entE, List.map_cons, List.map_nil, List.cons_append, List.nil_append, List.length_cons, List.length_nil, Nat.reduceSub, Nat.reduceAdd, List.set_cons_succ, List.set_cons_zero, List.getElem?_cons_succ, List.getElem?_cons_zero]
    rw [opAdd_s (sl_le (by omega)), opt_some, opAdd_s (sl_le (by omega)), opt_some, opAdd_s (sl_le (by omega)), opt_some]
    simp only [pures_cons, pures_nil, Option.map_some, opt_some]
    exact ⟨(show (8 : Nat) ≤ sizeLine by decide), hR _ _ ⟨rfl, some8 z, h8, rfl, rfl⟩⟩
  intro d S2 hd
  exact kinds_tail hb hm u1 hd k
theorem use_sat {zs kds : List Str} {hs : List (Str × Str × Int)} {h : Nat} (hb : Bag S n) (hh : S[h]? = some (habC hs)) (hne : h ≠ n) (hzs : zs ≠ []) (hz1 : zs.length ≤ 100) (hsub : ∀ z ∈ zs, z ∈ hs.map (·.1)) (hok : ∀ q ∈ hs, isKindS q.2.1 = true ∧ 0 ≤ q.2.2)
    (hk0 : kds ≠ []) (hk1 : kds.length ≤ 100) (hkd : ∀ z ∈ kds, isKindS z = true)
    (k : ∀ kd z o S', isKindS kd = true → z ∈ zs → 0 ≤ o → o + szS kd ≤ roomI zs → Upd n S S' → Q (.p (.tup [.str kd, .str z, .int o])) S') :
    (f_use [.ref n, .p (.lst (zs.map .str)), .ref h, .p (.lst (kds.map .str))] S).sx E Q := by
  unfold f_use b_use
  refine runB_by fun F N _ _ => ?_
  have hzp : 0 < zs.length := List.length_pos_iff.mpr hzs
  have hkp : 0 < kds.length := List.length_pos_iff.mpr hk0
  have hroom := room_le zs
  refine seq_by (fun sl S1 => ∃ z ∈ zs, Upd n S S1 ∧ sl = [some (.ref n), some (.p (.lst (zs.map .str))), some (.ref h), some (.p (.lst (kds.map .str))), some (.p (.str z)), some (.p (.int (roomI zs))), none, none]) ?_ ?_
  · intro R hR
    simp [List.replicate]
    refine take_raw hb (by omega) (by omega) fun d S1 h0 h1 u => ?_
    obtain ⟨v, hv, e⟩ := atI_mp (f := P.str) (xs := zs) h0 h1
    simp [ixP, e]
    by_cases hc : (zs.length : Int) < 3
    · simp [hc]; exact hR _ _ ⟨v, hv, u, by unfold roomI; rw [if_pos hc]⟩
    · simp [hc]; exact hR _ _ ⟨v, hv, u, by unfold roomI; rw [if_neg hc]⟩
  rintro sl S1 ⟨z, hz, u1, rfl⟩
  obtain ⟨⟨hk, ho⟩, ⟨z', hm⟩, hlook⟩ := hab_look (hsub z hz)
  obtain ⟨hki, ho0⟩ := hok _ hm
  refine seq_by (fun sl S2 => S1 = S2 ∧ sl = [some (.ref n), some (.p (.lst (zs.map .str))), some (.ref h), some (.p (.lst (kds.map .str))), some (.p (.str z)), some (.p (.int (roomI zs))), some (.p (.str hk)), some (.p (.int ho))]) ?_ ?_
  · intro R hR
    simp [ix_dic ((u1.get hne).trans hh), okKey, Z.keyOf]
    rw [hlook]
    simp [habP, effT, effsC, effsN]
    exact hR _ _ ⟨rfl, rfl⟩
  rintro _ _ ⟨rfl, rfl⟩
  refine seq_by (fun sl S2 => ∃ (kd : Str) (o : Int), isKindS kd = true ∧ 0 ≤ o ∧ Upd n S S2 ∧ sl = [some (.ref n), some (.p (.lst (zs.map .str))), some (.ref h), some (.p (.lst (kds.map .str))), some (.p (.str z)), some (.p (.int (roomI zs))), some (.p (.str kd)), some (.p (.int o))]) ?_ ?_
  · intro R hR
    simp
    refine take_raw (u1.bag hb) (by omega) (by omega) fun d S2 h0 h1 u2 => ?_
    simp
    split
    · refine take_raw (u2.bag (u1.bag hb)) (by omega) (by omega) fun d S3 h0 h1 u3 => ?_
      obtain ⟨v, hv, e⟩ := atI_mp (f := P.str) (xs := kds) h0 h1
      have hvk := hkd v hv
      have hvs := kind_sz hvk
      simp [ixP, e]
      have e1 := kind_ix hvk
      simp only [ixP] at e1
      simp [e1, kind_int hvk]
      refine take_raw (u3.bag (u2.bag (u1.bag hb))) (by omega) (by omega) fun d S4 h0 h1 u4 => ?_
      exact hR _ _ ⟨v, d, hvk, h0, u1.trans (u2.trans (u3.trans u4)), rfl⟩
    · exact hR _ _ ⟨hk, ho, hki, ho0, u1.trans u2, rfl⟩
  rintro _ S2 ⟨kd, o, hkd', ho', u2, rfl⟩
  have hsz := kind_sz hkd'
  simp [kind_ix hkd', kind_int hkd']
  refine k kd z _ S2 hkd' hz ?_ ?_ u2
  · split <;> omega
  · split <;> omega
end
end Kw

namespace Z
open PySem PySem.Spec PyProof.Rows L2
theorem tok {t : MT} {sl : Slots} {S : Store} {b : Bool} (h : (t sl S).sx noE fun b' S' => b' = b ∧ S' = S) : t sl S = .ok b S := by
  obtain ⟨a, S', e, rfl, rfl⟩ := h.ok
  exact e
theorem pures_strs : ∀ vs : List Str, pures (vs.map fun z => D.p (.str z)) = some (vs.map .str)
  | [] => rfl
  | v :: vs => by simp only [List.map_cons, pures, pures_strs vs, Option.map_some]
theorem view_strs {S : Store} {v : Nat} {vs : List Str} (h : S[v]? = some (strsC vs)) : view S (.ref v) = some (.lst (vs.map .str)) := by
  simp only [view, h, strsC, viewC, pures_strs, Option.map_some]
theorem fin_strs {vs : List Str} (h : ∀ z ∈ vs, isNameS z = true) : fin dpt (.lst (vs.map .str)) = true := by
  show (vs.map P.str).all (fin 23) = true
  refine List.all_eq_true.mpr fun d hd => ?_
  obtain ⟨c, hc, rfl⟩ := List.mem_map.mp hd
  exact name_ch (h c hc)
theorem ix_strs {S : Store} {v : Nat} {vs : List Str} {i : Int} {E : Xc → Store → Prop} {R : D → Store → Prop} (h : S[v]? = some (strsC vs)) (h0 : 0 ≤ i) (h1 : i < (vs.length : Int)) : ∃ z ∈ vs, (ixG (.ref v) (.p (.int i)) S).sx E R = R (.p (.str z)) S := by
  obtain ⟨z, hz, e⟩ := atI_mp (f := fun z => D.p (.str z)) (xs := vs) h0 h1
  exact ⟨z, hz, by rw [ix_lst h, e, opt_some]⟩
end Z
namespace Kw
open PySem PySem.Spec PyProof.Rows L2 Z
section
variable {S L : Store} {n : Nat} {many : Int} {E : Xc → Store → Prop} {Q : D → Store → Prop}
theorem step_sat {zs kds vs : List Str} {hs : List (Str × Str × Int)} {h v : Nat} {fr : Str} (hb : Bag S n) (hh : S[h]? = some (habC hs)) (hne : h ≠ n) (hzs : zs ≠ []) (hz1 : zs.length ≤ 100) (hsub : ∀ z ∈ zs, z ∈ hs.map (·.1)) (hok : ∀ q ∈ hs, isKindS q.2.1 = true ∧ 0 ≤ q.2.2)
    (hk0 : kds ≠ []) (hk1 : kds.length ≤ 100) (hkd : ∀ z ∈ kds, isKindS z = true) (hv : S[v]? = some (strsC vs)) (hvn : v ≠ n) (hv1 : vs.length ≤ 100) (hvs : ∀ z ∈ vs, isNameS z = true) (hf : isNameS fr = true) (hf1 : fr ∉ zs) (hf2 : fr ∉ vs)
    (k : ∀ (s : Stp) S', s.ok zs vs → (s.made = [] ∨ s.made = [fr]) → Upd n S S' → Q (.p s.p) S') :
    (f_step [.ref n, .p (.lst (zs.map .str)), .ref h, .p (.lst (kds.map .str)), .ref v, .p (.str fr)] S).sx E Q := by
  unfold f_step b_step
  refine runB_by fun F N _ _ => ?_
  have hroom := room_le zs
  refine seq_by (fun sl S1 => ∃ way : Int, Upd n S S1 ∧ sl = [some (.ref n), some (.p (.lst (zs.map .str))), some (.ref h), some (.p (.lst (kds.map .str))), some (.ref v), some (.p (.str fr)), some (.p (.int way)), some (.p (.int (roomI zs))), none, none, none, none, none, none, none, none]) ?_ ?_
  · intro R hR
    simp [List.replicate]
    refine take_raw hb (by omega) (by omega) fun d S1 h0 h1 u => ?_
    by_cases hc : (zs.length : Int) < 3
    · simp [hc]; exact hR _ _ ⟨_, u, by unfold roomI; rw [if_pos hc]⟩
    · simp [hc]; exact hR _ _ ⟨_, u, by unfold roomI; rw [if_neg hc]⟩
  rintro sl S1 ⟨way, u1, rfl⟩
  refine seq_by (fun sl S2 => ∃ (kd z : Str) (o : Int), isKindS kd = true ∧ z ∈ zs ∧ 0 ≤ o ∧ o + szS kd ≤ roomI zs ∧ Upd n S S2 ∧ sl = [some (.ref n), some (.p (.lst (zs.map .str))), some (.ref h), some (.p (.lst (kds.map .str))), some (.ref v), some (.p (.str fr)), some (.p (.int way)), some (.p (.int (roomI zs))), some (.p (.str kd)), some (.p (.str z)), some (.p (.int o)), none, none, none, none, none]) ?_ ?_
  · intro R hR
    simp
    refine use_sat (u1.bag hb) ((u1.get hne).trans hh) hne hzs hz1 hsub hok hk0 hk1 hkd fun kd z o S2 a1 a2 a3 a4 u2 => ?_
    simp [effT, effsC, effsN]
    exact hR _ _ ⟨_, _, _, a1, a2, a3, a4, u1.trans u2, rfl⟩
  rintro sl S2 ⟨kd, z, o, hk, hz, ho, hos, u2, rfl⟩
  have hsz := kind_sz hk
  refine step_if (b := decide (way < 6)) (S' := S2) (tok (by simp)) (fun hw => ?_) (fun hw => ?_)
  · simp
    exact k (.read fr kd z o) S2 ⟨hf, hf1, hf2, hk, hz, ho, by omega⟩ (.inr rfl) u2
  have hv2 : S2[v]? = some (strsC vs) := (u2.get hvn).trans hv
  refine step_if (b := decide (way < 11) || (way == 15 && vs.isEmpty)) (S' := S2) (tok (by
    simp [view_strs hv2, opEq_ok (fin_strs hvs) (show fin dpt (.lst []) = true from rfl), eqv_nil]
    by_cases h1 : way < 11
    · simp [h1]
    · by_cases h2 : way = 15
      · simp [h2]
      · simp [h1, h2]; omega)) (fun hw => ?_) (fun hw => ?_)
  · refine seq_by (fun sl S3 => ∃ (i : Int), absI i < 10 ^ 40 ∧ Upd n S S3 ∧ sl = [some (.ref n), some (.p (.lst (zs.map .str))), some (.ref h), some (.p (.lst (kds.map .str))), some (.ref v), some (.p (.str fr)), some (.p (.int way)), some (.p (.int (roomI zs))), some (.p (.str kd)), some (.p (.str z)), some (.p (.int o)), some (.p (.int i)), none, none, none, none]) ?_ ?_
    · intro R hR
      simp
      refine take_raw (u2.bag hb) (by omega) (by omega) fun d1 S3 a0 a1 u3 => ?_
      simp [opPow_i]
      refine take_raw (u3.bag (u2.bag hb)) (by omega) (by omega) fun d2 S4 b0 b1 u4 => ?_
      simp
      refine take_raw (u4.bag (u3.bag (u2.bag hb))) (by omega) (by omega) fun d3 S5 c0 c1 u5 => ?_
      simp [opDiv_i]
      have : d3 / 7 = 0 ∨ d3 / 7 = 1 := by omega
      rcases this with e | e
      · simp [e, ixP]
        exact hR _ _ ⟨_, by unfold absI; split <;> omega, u2.trans (u3.trans (u4.trans u5)), rfl⟩
      · simp [e, ixP]
        exact hR _ _ ⟨_, by unfold absI; split <;> omega, u2.trans (u3.trans (u4.trans u5)), rfl⟩
    rintro sl S3 ⟨i, hi, u3, rfl⟩
    have hv3 : S3[v]? = some (strsC vs) := (u3.get hvn).trans hv
    refine seq_by (fun sl S4 => ∃ (w : Z.P), ((∃ i, w = .int i ∧ absI i < 10 ^ 40) ∨ ∃ x ∈ vs, w = .str x) ∧ Upd n S S4 ∧ sl = [some (.ref n), some (.p (.lst (zs.map .str))), some (.ref h), some (.p (.lst (kds.map .str))), some (.ref v), some (.p (.str fr)), some (.p (.int way)), some (.p (.int (roomI zs))), some (.p (.str kd)), some (.p (.str z)), some (.p (.int o)), some (.p w), none, none, none, none]) ?_ ?_
    · intro R hR
      simp [view_strs hv3, opNe_ok (fin_strs hvs) (show fin dpt (.lst []) = true from rfl), eqv_nil]
      cases vs with
      | nil => simp; exact hR _ _ ⟨_, .inl ⟨i, rfl, hi⟩, u3, rfl⟩
      | cons y ys =>
        simp
        refine take_raw (u3.bag hb) (by omega) (by omega) fun d S4 a0 a1 u4 => ?_
        simp
        split
        · have hv4 : S4[v]? = some (strsC (y :: ys)) := (u4.get hvn).trans hv3
          simp [view_strs hv4]
          refine take_raw (u4.bag (u3.bag hb)) (by simp at hv1; omega) (by simp at hv1; omega) fun d S5 a0 a1 u5 => ?_
          have hv5 : S5[v]? = some (strsC (y :: ys)) := (u5.get hvn).trans hv4
          obtain ⟨x, hx, e⟩ := atI_mp (f := fun z => D.p (.str z)) (xs := y :: ys) a0 (by simpa using a1)
          rw [ix_lst (show S5[v]? = some (.lst _) from hv5), e]
          exact hR _ _ ⟨.str x, .inr ⟨x, hx, rfl⟩, u3.trans (u4.trans u5), rfl⟩
        · exact hR _ _ ⟨_, .inl ⟨i, rfl, hi⟩, u3.trans u4, rfl⟩
    rintro sl S4 ⟨w, hw, u4, rfl⟩
    simp
    exact k (.write kd z o w) S4 ⟨hk, hz, ho, by omega, hw⟩ (.inl rfl) u4
  refine step_if (b := way == 15) (S' := S2) (tok (by simp)) (fun hw15 => ?_) (fun hw15 => ?_)
  · have hne : vs ≠ [] := by
      rintro rfl
      simp [hw15] at hw
    have hpos : 0 < vs.length := List.length_pos_iff.mpr hne
    simp [view_strs hv2]
    refine take_raw (u2.bag hb) (by omega) (by omega) fun d S3 a0 a1 u3 => ?_
    obtain ⟨x, hx, e⟩ := atI_mp (f := fun z => D.p (.str z)) (xs := vs) a0 a1
    rw [ix_lst (show S3[v]? = some (.lst _) from (u3.get hvn).trans hv2), e]
    simp
    exact k (.tell x) S3 hx (.inl rfl) (u2.trans u3)
  refine seq_by (fun sl S3 => ∃ (kd' z' : Str) (o' : Int), isKindS kd' = true ∧ z' ∈ zs ∧ 0 ≤ o' ∧ o' + szS kd' ≤ roomI zs ∧ Upd n S S3 ∧ sl = [some (.ref n), some (.p (.lst (zs.map .str))), some (.ref h), some (.p (.lst (kds.map .str))), some (.ref v), some (.p (.str fr)), some (.p (.int way)), some (.p (.int (roomI zs))), some (.p (.str kd)), some (.p (.str z)), some (.p (.int o)), none, some (.p (.str kd')), some (.p (.str z')), some (.p (.int o')), none]) ?_ ?_
  · intro R hR
    simp
    refine use_sat (u2.bag hb) ((u2.get hne).trans hh) hne hzs hz1 hsub hok hk0 hk1 hkd fun kd z o S2 a1 a2 a3 a4 u3 => ?_
    simp [effT, effsC, effsN]
    exact hR _ _ ⟨_, _, _, a1, a2, a3, a4, u2.trans u3, rfl⟩
  rintro sl S3 ⟨kd', z', o', hk', hz', ho', hos', u3, rfl⟩
  have hsz' := kind_sz hk'
  refine seq_by (fun sl S4 => ∃ (m : Int), 1 ≤ m ∧ Upd n S S4 ∧ sl = [some (.ref n), some (.p (.lst (zs.map .str))), some (.ref h), some (.p (.lst (kds.map .str))), some (.ref v), some (.p (.str fr)), some (.p (.int way)), some (.p (.int (roomI zs))), some (.p (.str kd)), some (.p (.str z)), some (.p (.int o)), none, some (.p (.str kd')), some (.p (.str z')), some (.p (.int o')), some (.p (.int m))]) ?_ ?_
  · intro R hR
    simp [kind_ix hk, kind_int hk, kind_ix hk', kind_int hk']
    refine take_raw (u3.bag hb) (by omega) (by omega) fun d1 S4 a0 a1 u4 => ?_
    simp
    refine take_raw (u4.bag (u3.bag hb)) (by omega) (by omega) fun d2 S5 b0 b1 u5 => ?_
    have uu := u3.trans (u4.trans u5)
    obtain rfl | rfl | rfl | rfl | rfl : d2 = 0 ∨ d2 = 1 ∨ d2 = 2 ∨ d2 = 3 ∨ d2 = 4 := by omega
    · simp [ixP]; exact hR _ _ ⟨_, by omega, uu, rfl⟩
    · simp [ixP]; exact hR _ _ ⟨_, by omega, uu, rfl⟩
    · simp [ixP]; exact hR _ _ ⟨_, by omega, uu, rfl⟩
    · simp [ixP, atI_3]; exact hR _ _ ⟨_, by omega, uu, rfl⟩
    · simp [ixP, atI_4]; exact hR _ _ ⟨_, by omega, uu, rfl⟩
  rintro sl S4 ⟨m, hm, u4, rfl⟩
  refine seq_by (fun sl S5 => S4 = S5 ∧ ∃ (m : Int), 1 ≤ m ∧ o + m ≤ 8 ∧ o' + m ≤ 8 ∧ sl = [some (.ref n), some (.p (.lst (zs.map .str))), some (.ref h), some (.p (.lst (kds.map .str))), some (.ref v), some (.p (.str fr)), some (.p (.int way)), some (.p (.int (roomI zs))), some (.p (.str kd)), some (.p (.str z)), some (.p (.int o)), none, some (.p (.str kd')), some (.p (.str z')), some (.p (.int o')), some (.p (.int m))]) ?_ ?_
  · intro R hR
    simp
    refine hR _ _ ⟨rfl, _, ?_, ?_, ?_, rfl⟩
    all_goals (split <;> split <;> omega)
  rintro sl _ ⟨rfl, m, hm1, hm2, hm3, rfl⟩
  refine step_if (b := way == 14) (S' := S4) (tok (by simp)) (fun hw14 => ?_) (fun hw14 => ?_)
  · simp
    exact k (.blank m z o) S4 ⟨hm1, hz, ho, hm2⟩ (.inl rfl) u4
  · simp
    exact k (.copy m z o z' o') S4 ⟨hm1, hz, ho, hm2, hz', ho', hm3⟩ (.inl rfl) u4
end
end Kw

namespace Z
open PySem PySem.Spec PyProof.Rows L2
theorem Upd.get4 {S S' : Store} {n : Nat} {a b c d : Cell} (u : Upd n (S ++ [a, b, c, d]) S') (h : Bag S n) : ∃ S1, S' = S1 ++ [a, b, c, d] ∧ Upd n S S1 := u.app h
section
variable {S : Store} {a b c d x : Cell}
theorem g0 : (S ++ [a, b, c, d])[S.length]? = some a := by simp
theorem g1 : (S ++ [a, b, c, d])[S.length + 1]? = some b := by simp
theorem g2 : (S ++ [a, b, c, d])[S.length + 2]? = some c := by simp
theorem g3 : (S ++ [a, b, c, d])[S.length + 3]? = some d := by simp
theorem s0 : (S ++ [a, b, c, d]).set S.length x = S ++ [x, b, c, d] := by simp
theorem s1 : (S ++ [a, b, c, d]).set (S.length + 1) x = S ++ [a, x, c, d] := by simp
theorem s2 : (S ++ [a, b, c, d]).set (S.length + 2) x = S ++ [a, b, x, d] := by simp
theorem s3 : (S ++ [a, b, c, d]).set (S.length + 3) x = S ++ [a, b, c, x] := by simp
end
theorem enum_get {ps : List P} {i : Nat} {q : P} (h : (enumP ps)[i]? = some q) : ∃ p, ps[i]? = some p ∧ q = .tup [.int (i : Int), p] := by
  simp [enumP] at h
  obtain ⟨p, h1, rfl⟩ := h
  exact ⟨p, h1, rfl⟩
theorem enum_len {ps : List P} : (enumP ps).length = ps.length := by simp [enumP]
theorem vwx_at {k : Nat} : ixP (.str "vwxyz") (.int ((k : Int) % 5)) = some (.str ⟨#[((cs VWXYZ)[k % 5]?).getD 0]⟩) := by
  have hl : (cs VWXYZ).length = 5 := by decide +kernel
  rw [ixP_z (by decide)]
  have e : (cs VWXYZ)[k % 5]? = some (cs VWXYZ)[k % 5] := List.getElem?_eq_getElem (by omega)
  have e2 : ((k : Int) % 5).toNat = k % 5 := by omega
  show Option.map ch (atI (cs VWXYZ) _) = _
  simp only [atI, ixN, if_pos (show (0 : Int) ≤ (k : Int) % 5 by omega), hl, if_pos (show (k : Int) % 5 < ((5 : Nat) : Int) by omega), Option.bind_some, e2, e, Option.getD_some]
  rfl
theorem look_last {hs : List (Str × Str × Int)} {z : Str} {o : Str × Int} (h : ¬ (P.str z ∈ hs.map fun q => P.str q.1)) : lookL ((hs ++ [(z, o)]).map fun q => P.str q.1) ((hs ++ [(z, o)]).map fun q => habP q.2) (.str z) = some (habP o) := by
  induction hs with
  | nil => simp [lookL]
  | cons q hs ih =>
    simp only [List.map_cons, List.mem_cons, not_or] at h
    simp only [List.cons_append, List.map_cons, lookL]
    rw [if_neg (fun e => h.1 e.symm)]
    exact ih h.2
theorem madeBy_le : ∀ ss : List Stp, (madeBy ss).length ≤ ss.length
  | [] => by simp [madeBy]
  | s :: ss => by
    have := madeBy_le ss
    have h1 : s.made.length ≤ 1 := by cases s <;> simp [Stp.made]
    simp [madeBy]
    omega
theorem pures_mapf {α : Type} {f : α → P} : ∀ xs : List α, pures (xs.map fun x => D.p (f x)) = some (xs.map f)
  | [] => rfl
  | x :: xs => by simp only [List.map_cons, pures, pures_mapf xs, Option.map_some]
theorem view_map {α : Type} {f : α → P} {S : Store} {v : Nat} {xs : List α} (h : S[v]? = some (.lst (xs.map fun x => D.p (f x)))) : view S (.ref v) = some (.lst (xs.map f)) := by
  simp only [view, h, viewC, pures_mapf, Option.map_some]
theorem toS_len {k : Nat} (h : k < 10) : (Str.ofString (toString (k : Int))).length ≤ 100 := by
  obtain rfl | rfl | rfl | rfl | rfl | rfl | rfl | rfl | rfl | rfl : k = 0 ∨ k = 1 ∨ k = 2 ∨ k = 3 ∨ k = 4 ∨ k = 5 ∨ k = 6 ∨ k = 7 ∨ k = 8 ∨ k = 9 := by omega
  all_goals decide +kernel
theorem strP_n {k : Nat} (h : k < 10) : strP [.int (k : Int)] = some (.str (Str.ofString (toString (k : Int)))) := by
  simp only [strP]
  rw [if_pos (by
    obtain rfl | rfl | rfl | rfl | rfl | rfl | rfl | rfl | rfl | rfl : k = 0 ∨ k = 1 ∨ k = 2 ∨ k = 3 ∨ k = 4 ∨ k = 5 ∨ k = 6 ∨ k = 7 ∨ k = 8 ∨ k = 9 := by omega
    all_goals decide +kernel)]
def plC (pl : Nat) (hs : List (Str × Str × Int)) : Cell := .lst ((hs.take pl).map fun q => .p (placeP (q.1, q.2.1)))
def stpC (ss : List Stp) : Cell := .lst (ss.map fun s => .p s.p)
theorem plC_snoc {hs : List (Str × Str × Int)} {q : Str × Str × Int} {pl : Nat} (h : pl ≤ hs.length) : plC pl (hs ++ [q]) = plC pl hs := by
  unfold plC
  rw [List.take_append_of_le_length h]
theorem head_read {s : Stp} : ∃ w ps, s.p = .tup (.str w :: ps) ∧ chOk w = true ∧ ((w == Str.ofString "read") = true ↔ s.made ≠ []) := by
  cases s with
  | read x k n o => exact ⟨_, _, rfl, by decide +kernel, by simp [Stp.made]⟩
  | write k n o v => exact ⟨_, _, rfl, by decide +kernel, by simp [Stp.made]⟩
  | copy m n o n' o' => exact ⟨_, _, rfl, by decide +kernel, by simp [Stp.made]⟩
  | blank m n o => exact ⟨_, _, rfl, by decide +kernel, by simp [Stp.made]⟩
  | tell x => exact ⟨_, _, rfl, by decide +kernel, by simp [Stp.made]⟩
end Z
namespace Kw
open PySem PySem.Spec PyProof.Rows L2 Z
section
variable {S L : Store} {n : Nat} {E : Xc → Store → Prop} {Q : D → Store → Prop}
theorem drawn_sat {most : Nat} {r : Int} (hb : Bag S n) (hp : pureSt S) (hm0 : 0 < most) (hm : most ≤ 12) (hr0 : 2 ≤ r) (hr : r ≤ 4)
    (k : ∀ (t : Txt) S', t.ok → (t.names.length : Int) ≤ r → 0 < t.ptrs.length → 0 < t.steps.length → t.steps.length ≤ most → Upd n S S' → Q (.p (.tup [t.pl, t.pt, t.st])) S') :
    (f_drawn [.ref n, .p (.int (most : Int)), .p (.int r)] S).sx E Q := by
  unfold f_drawn b_drawn
  refine runZ_by fun F N T _ _ hT => ?_
  refine set_by (fun d S1 => ∃ pl : Nat, pl ≤ 2 ∧ (pl : Int) ≤ r - 1 ∧ d = .p (.int (pl : Int)) ∧ Upd n S S1) ?_ ?_
  · intro R hR
    simp [List.replicate]
    refine take_raw hb (by decide) (by decide) fun d S' h0 h1 u => ?_
    have key : ∀ i : Int, 0 ≤ i → i ≤ 2 → R (.p (.int (if r - 1 < i then r - 1 else i))) S' := fun i i0 i2 => by
      split
      · exact hR _ _ ⟨(r - 1).toNat, by omega, by omega, by congr 2; omega, u⟩
      · exact hR _ _ ⟨i.toNat, by omega, by omega, by congr 2; omega, u⟩
    obtain rfl | rfl | rfl | rfl | rfl | rfl : d = 0 ∨ d = 1 ∨ d = 2 ∨ d = 3 ∨ d = 4 ∨ d = 5 := by omega
    · simp [ixP]; exact key 0 (by omega) (by omega)
    · simp [ixP]; exact key 0 (by omega) (by omega)
    · simp [ixP]; exact key 0 (by omega) (by omega)
    · simp [ixP, atI_3]; exact key 1 (by omega) (by omega)
    · simp [ixP, atI_4]; exact key 1 (by omega) (by omega)
    · have : atI [P.int 0, .int 0, .int 0, .int 1, .int 1, .int 2] 5 = some (.int 2) := rfl
      simp [ixP, this]; exact key 2 (by omega) (by omega)
  rintro _ S1 ⟨pl, hpl, hplr, rfl, u1⟩
  refine set_by (fun d S2 => ∃ mn : Nat, 1 ≤ mn ∧ mn ≤ 3 ∧ (mn : Int) + pl ≤ r ∧ d = .p (.int (mn : Int)) ∧ Upd n S S2) ?_ ?_
  · intro R hR
    simp [List.replicate]
    refine take_raw (u1.bag hb) (by decide) (by decide) fun d S' h0 h1 u => ?_
    have uu := u1.trans u
    have key : ∀ i : Int, 1 ≤ i → i ≤ 3 → R (.p (.int (if r - pl < i then r - pl else i))) S' := fun i i0 i2 => by
      split
      · exact hR _ _ ⟨(r - pl).toNat, by omega, by omega, by omega, by congr 2; omega, uu⟩
      · exact hR _ _ ⟨i.toNat, by omega, by omega, by omega, by congr 2; omega, uu⟩
    obtain rfl | rfl | rfl | rfl | rfl : d = 0 ∨ d = 1 ∨ d = 2 ∨ d = 3 ∨ d = 4 := by omega
    · simp [ixP]; exact key 1 (by omega) (by omega)
    · simp [ixP]; exact key 2 (by omega) (by omega)
    · simp [ixP]; exact key 2 (by omega) (by omega)
    · simp [ixP, atI_3]; exact key 2 (by omega) (by omega)
    · simp [ixP, atI_4]; exact key 3 (by omega) (by omega)
  rintro _ S2 ⟨mn, hmn, hmn3, hmr, rfl, u2⟩
  refine seq_by (fun sl S3 => ∃ (zs kds : List Str), zs.length = mn + pl ∧ NamesOk zs ∧ kds.length = 2 ∧ (∀ z ∈ kds, isKindS z = true) ∧ Upd n S S3 ∧ sl = [some (.ref n), some (.p (.int (most : Int))), some (.p (.int r)), some (.p (.int (pl : Int))), some (.p (.int (mn : Int))), some (.p (.lst (zs.map .str))), some (.p (.lst (kds.map .str))), none, none, none, none, none, none, none, none]) ?_ ?_
  · intro R hR
    simp [List.replicate]
    refine names_sat (m := mn + pl) (u2.bag hb) (u2.pure hp) (by omega) fun zs S3 hl hz u3 => ?_
    try simp
    refine kinds_sat (m := 2) (u3.bag (u2.bag hb)) (by omega) fun ks S4 hkl hks u4 => ?_
    exact hR _ _ ⟨zs, ks, hl, hz, hkl, hks, u2.trans (u3.trans u4), rfl⟩
  rintro _ S3 ⟨zs, kds, hzl, hzs, hkl, hks, u3, rfl⟩
  refine seq_by (fun sl S4 => S4 = S3 ++ [habC [], stpC [], strsC [], plC pl []] ∧ sl = [some (.ref n), some (.p (.int (most : Int))), some (.p (.int r)), some (.p (.int (pl : Int))), some (.p (.int (mn : Int))), some (.p (.lst (zs.map .str))), some (.p (.lst (kds.map .str))), some (.ref S3.length), some (.ref (S3.length + 1)), some (.ref (S3.length + 2)), some (.ref (S3.length + 3)), none, none, none, none]) ?_ ?_
  · intro R hR
    simp
    exact hR _ _ ⟨by simp [habC, stpC, strsC, plC], rfl⟩
  rintro _ _ ⟨rfl, rfl⟩
  refine seq_by (fun sl S5 => ∃ (hs : List (Str × Str × Int)) (S4 : Store) (x y : Option D), hs.map (·.1) = zs ∧ (∀ q ∈ hs, isKindS q.2.1 = true ∧ 0 ≤ q.2.2) ∧ Upd n S S4 ∧ S5 = S4 ++ [habC hs, stpC [], strsC [], plC pl hs] ∧ sl = [some (.ref n), some (.p (.int (most : Int))), some (.p (.int r)), some (.p (.int (pl : Int))), some (.p (.int (mn : Int))), some (.p (.lst (zs.map .str))), some (.p (.lst (kds.map .str))), some (.ref S3.length), some (.ref (S3.length + 1)), some (.ref (S3.length + 2)), some (.ref (S3.length + 3)), x, y, none, none]) ?_ ?_
  · intro R hR
    simp
    refine loop_iR (fun i sl S5 => ∃ (hs : List (Str × Str × Int)) (S4 : Store) (x y : Option D), hs.map (·.1) = zs.take i ∧ (∀ q ∈ hs, isKindS q.2.1 = true ∧ 0 ≤ q.2.2) ∧ Upd n S S4 ∧ S5 = S4 ++ [habC hs, stpC [], strsC [], plC pl hs] ∧ sl = [some (.ref n), some (.p (.int (most : Int))), some (.p (.int r)), some (.p (.int (pl : Int))), some (.p (.int (mn : Int))), some (.p (.lst (zs.map .str))), some (.p (.lst (kds.map .str))), some (.ref S3.length), some (.ref (S3.length + 1)), some (.ref (S3.length + 2)), some (.ref (S3.length + 3)), x, y, none, none]) ?_ ?_ ⟨[], S3, none, none, by simp, by simp, u3, by simp, rfl⟩
    · rintro i q sl S5 hq ⟨hs, S4, x, y, hh, hok, u4, rfl, rfl⟩
      obtain ⟨p, hp', rfl⟩ := enum_get hq
      obtain ⟨z, hz, rfl⟩ : ∃ z, zs[i]? = some z ∧ p = .str z := by
        rw [List.getElem?_map] at hp'
        cases hz : zs[i]? with
        | none => rw [hz] at hp'; cases hp'
        | some z => rw [hz] at hp'; cases hp'; exact ⟨z, rfl, rfl⟩
      obtain ⟨hi, hze⟩ := List.getElem?_eq_some_iff.mp hz
      have hl4 : S4.length = S3.length := u4.len.trans u3.len.symm
      have hhl : hs.length = i := by
        have := congrArg List.length hh
        simp at this
        omega
      have hnot : z ∉ hs.map (·.1) := by
        rw [hh]
        intro hc
        obtain ⟨j, hj, e⟩ := List.mem_iff_getElem.mp hc
        simp at hj e
        have := nodup_get hzs.nd (j := j) (k := i) (z := z) (by rw [List.getElem?_eq_getElem (by omega), e]) hz
        omega
      have hk : ¬ (P.str z ∈ hs.map fun q => P.str q.1) := by
        intro hc
        obtain ⟨q', hq', e⟩ := List.mem_map.mp hc
        cases e
        exact hnot (List.mem_map.mpr ⟨q', hq', rfl⟩)
      have hkey : ∀ o, lookL ((hs ++ [(z, o)]).map fun q => P.str q.1) ((hs ++ [(z, o)]).map fun q => habP q.2) (.str z) = some (habP o) := fun o => look_last hk
      refine ⟨_, rfl, fun R' hR' => ?_⟩
      refine seq_by (fun sl S6 => ∃ (kd : Str) (o : Int) (S5 : Store), isKindS kd = true ∧ 0 ≤ o ∧ Upd n S S5 ∧ S6 = S5 ++ [habC (hs ++ [(z, kd, o)]), stpC [], strsC [], plC pl hs] ∧ sl = [some (.ref n), some (.p (.int (most : Int))), some (.p (.int r)), some (.p (.int (pl : Int))), some (.p (.int (mn : Int))), some (.p (.lst (zs.map .str))), some (.p (.lst (kds.map .str))), some (.ref S3.length), some (.ref (S3.length + 1)), some (.ref (S3.length + 2)), some (.ref (S3.length + 3)), some (.p (.int (i : Int))), some (.p (.str z)), none, none]) ?_ ?_
      · intro R hR
        simp
        refine take_sat (u4.bag hb) (by decide) (by decide) fun d S5 h0 h1 u5 => ?_
        obtain ⟨v, hv, e⟩ := atI_mp (f := P.str) (xs := kds) (k := d) h0 (by omega)
        simp [ixP, e]
        refine take_sat (u5.bag (u4.bag hb)) (by decide) (by decide) fun d2 S6 h20 h21 u6 => ?_
        have hl6 : S6.length = S3.length := (u6.len.trans u5.len).trans hl4
        have key : ∀ b : Int, 0 ≤ b → opt (putG (S6 ++ [habC hs, stpC [], strsC [], plC pl hs]) S3.length (.p (.str z)) (.p (.tup [.str v, .int b]))) (fun S7 => R [some (.ref n), some (.p (.int (most : Int))), some (.p (.int r)), some (.p (.int (pl : Int))), some (.p (.int (mn : Int))), some (.p (.lst (zs.map .str))), some (.p (.lst (kds.map .str))), some (.ref S3.length), some (.ref (S3.length + 1)), some (.ref (S3.length + 2)), some (.ref (S3.length + 3)), some (.p (.int (i : Int))), some (.p (.str z)), none, none] S7) := by
          intro b hb0
          rw [put_dic (show (S6 ++ [habC hs, stpC [], strsC [], plC pl hs])[S3.length]? = some (Cell.dic _ _ _) from by rw [← hl6]; exact g0),  if_pos ⟨rfl, sl_lt (by simp; omega)⟩, opt_some, ← hl6, s0]
          unfold putKs putV
          rw [if_neg hk, if_neg hk]
          refine hR _ _ ⟨v, b, S6, hks v hv, hb0, u4.trans (u5.trans u6), ?_, by rw [hl6]⟩
          simp [habC, habP]
        simp
        by_cases hc : pl ≤ i
        · simp [hc, opMul_i]
          exact key d2 h20
        · simp [hc, opMul_i]
          exact key 0 (by omega)
      rintro sl _ ⟨kd, o, S5, hkd, ho, u5, rfl, rfl⟩
      have hl5 : S5.length = S3.length := u5.len.trans u3.len.symm
      have hok' : ∀ q ∈ hs ++ [(z, kd, o)], isKindS q.2.1 = true ∧ 0 ≤ q.2.2 := by
        intro q hq
        rcases List.mem_append.mp hq with hq | hq
        · exact hok q hq
        · simp at hq; subst hq; exact ⟨hkd, ho⟩
      have hh' : (hs ++ [(z, kd, o)]).map (·.1) = zs.take (i + 1) := by
        rw [List.map_append, hh, List.take_succ, hz]
        rfl
      refine step_if (b := decide (i < pl)) (S' := _) (tok (by simp)) (fun hc => ?_) (fun hc => ?_)
      · have hc : i < pl := of_decide_eq_true hc
        have e0 : (S5 ++ [habC (hs ++ [(z, kd, o)]), stpC [], strsC [], plC pl hs])[S3.length]? = some (habC (hs ++ [(z, kd, o)])) := by rw [← hl5]; exact g0
        have e3 : (S5 ++ [habC (hs ++ [(z, kd, o)]), stpC [], strsC [], plC pl hs])[S3.length + 3]? = some (plC pl hs) := by rw [← hl5]; exact g3
        refine app_by (fun d S6 => S6 = S5 ++ [habC (hs ++ [(z, kd, o)]), stpC [], strsC [], plC pl hs] ∧ d = .p (placeP (z, kd))) rfl e3 ?_ ?_
        · intro R hR
          simp
          rw [ix_dic (show _ = some (Cell.dic _ _ _) from e0)]
          refine ⟨rfl, ?_⟩
          rw [hkey]
          simp [habP, ixP]
          exact hR _ _ ⟨rfl, rfl⟩
        · rintro _ _ ⟨rfl, rfl⟩
          refine ⟨_, e3, by simp; omega, ?_⟩
          simp
          refine hR' _ _ ⟨hs ++ [(z, kd, o)], S5, _, _, hh', hok', u5, ?_, rfl⟩
          rw [← hl5, s3, List.take_of_length_le (by simp; omega)]
          unfold plC
          rw [List.take_of_length_le (by simp; omega)]
          simp
      · have hc : ¬ i < pl := of_decide_eq_false hc
        simp
        refine hR' _ _ ⟨hs ++ [(z, kd, o)], S5, _, _, hh', hok', u5, ?_, rfl⟩
        rw [plC_snoc (by omega)]
    · rintro sl S5 ⟨hs, S4, x, y, hh, hok, u4, rfl, rfl⟩
      refine hR _ _ ⟨hs, S4, x, y, ?_, hok, u4, rfl, rfl⟩
      rw [hh, enum_len, List.length_map, List.take_length]
  rintro sl _ ⟨hs, S4, x, y, hh, hok, u4, rfl, rfl⟩
  obtain ⟨z0, zr, ezs⟩ : ∃ z0 zr, zs = z0 :: zr := by
    cases zs with
    | nil => simp at hzl; omega
    | cons a b => exact ⟨a, b, rfl⟩
  have hz0 : zs.head? = some z0 := by rw [ezs]; rfl
  have hn0 := name_len (hzs.nm z0 (by rw [ezs]; exact List.mem_cons_self ..))
  rw [w_seq]
  simp
  refine take_sat (u4.bag hb) (by omega) (by omega) fun d S5 d0 d1 u5 => ?_
  simp
  refine ⟨by omega, ?_⟩
  refine loop_rR (fun j sl S6 => ∃ (ss : List Stp) (S5 : Store) (x y z w : Option D), ss.length = j ∧ okSteps zs [] ss ∧ (∀ x ∈ madeBy ss, ∃ i < j, x = freshS z0 i) ∧ Upd n S S5 ∧ S6 = S5 ++ [habC hs, stpC ss, strsC (madeBy ss), plC pl hs] ∧ sl = [some (.ref n), some (.p (.int (most : Int))), some (.p (.int r)), some (.p (.int (pl : Int))), some (.p (.int (mn : Int))), some (.p (.lst (zs.map .str))), some (.p (.lst (kds.map .str))), some (.ref S3.length), some (.ref (S3.length + 1)), some (.ref (S3.length + 2)), some (.ref (S3.length + 3)), x, y, z, w]) ?_ ?_ ⟨[], S5, _, _, _, _, rfl, trivial, by simp [madeBy], u4.trans u5, by simp [madeBy], rfl⟩
  · rintro j sl S6 hj ⟨ss, S5, x, y, z, w, hl, hok2, hfr, u5, rfl, rfl⟩
    have hl5 : S5.length = S3.length := u5.len.trans u3.len.symm
    have hj12 : j < 15 := by omega
    obtain ⟨hfn, hfz⟩ := hzs.fr z0 hz0 j hj12
    have hfv : freshS z0 j ∉ madeBy ss := fun hc => by
      obtain ⟨i, hi, e⟩ := hfr _ hc
      have := hzs.fd z0 hz0 j hj12 i (by omega) e
      omega
    have hvn : ∀ z ∈ madeBy ss, isNameS z = true := fun z hz => by
      obtain ⟨i, hi, rfl⟩ := hfr _ hz
      exact (hzs.fr z0 hz0 i (by omega)).1
    have hvl : (madeBy ss).length ≤ ss.length := madeBy_le ss
    refine ⟨_, rfl, fun R' hR' => ?_⟩
    refine set_by (fun d S6 => S6 = S5 ++ [habC hs, stpC ss, strsC (madeBy ss), plC pl hs] ∧ d = .p (.str (freshS z0 j))) ?_ ?_
    · intro R hR
      have hc := cutS_le z0 none (some 6)
      have hjj : (j : Int) / 5 = ((j / 5 : Nat) : Int) := by omega
      have hz0l : z0.length ≤ sizeLine := sl_le (by omega)
      have hts : (Str.ofString (toString ((j / 5 : Nat) : Int))).length ≤ 100 := toS_len (by omega)
      have ez : ixP (.lst (zs.map .str)) (.int 0) = some (.str z0) := by rw [ezs]; simp [ixP]
      simp [ez, slP_z hz0l, opMod_i, opDiv_i]
      rw [show ixP (.str (Str.ofString "vwxyz")) (.int ((j : Int) % 5)) = _ from vwx_at]
      simp
      rw [opAdd_s (sl_le (by rw [len_one]; omega)), opt_some, hjj, strP_n (by omega), opt_some, opAdd_s (sl_le (by rw [len_append, len_one]; omega)), opt_some]
      exact hR _ _ ⟨rfl, rfl⟩
    rintro _ _ ⟨rfl, rfl⟩
    refine seq_by (fun sl S6 => ∃ (s : Stp) (S5 : Store), s.ok zs (madeBy ss) ∧ (s.made = [] ∨ s.made = [freshS z0 j]) ∧ Upd n S S5 ∧ S6 = S5 ++ [habC hs, stpC ss, strsC (madeBy ss), plC pl hs] ∧ sl = [some (.ref n), some (.p (.int (most : Int))), some (.p (.int r)), some (.p (.int (pl : Int))), some (.p (.int (mn : Int))), some (.p (.lst (zs.map .str))), some (.p (.lst (kds.map .str))), some (.ref S3.length), some (.ref (S3.length + 1)), some (.ref (S3.length + 2)), some (.ref (S3.length + 3)), some (.p (.int (j : Int))), y, some (.p (.str (freshS z0 j))), some (.p s.p)]) ?_ ?_
    · intro R hR
      simp
      refine step_sat (zs := zs) (kds := kds) (vs := madeBy ss) (hs := hs) (u5.bag hb).app (by rw [← hl5]; exact g0) (by have := hb.lt; have := u3.len; omega) (by rw [ezs]; simp) (by omega) (by rw [hh]; exact fun z hz => hz) hok (by intro e; rw [e] at hkl; simp at hkl) (by omega) hks (by rw [← hl5]; exact g2) (by have := hb.lt; have := u3.len; omega) (by omega) hvn hfn hfz hfv fun s S6 hs1 hs2 u6 => ?_
      obtain ⟨S7, rfl, u7⟩ := u6.app (u5.bag hb)
      exact hR _ _ ⟨s, S7, hs1, hs2, u5.trans u7, rfl, rfl⟩
    rintro _ _ ⟨s, S6, hs1, hs2, u6, rfl, rfl⟩
    have hl6 : S6.length = S3.length := u6.len.trans u3.len.symm
    refine seq_by (fun sl S7 => S7 = S6 ++ [habC hs, stpC ss, strsC (madeBy (ss ++ [s])), plC pl hs] ∧ sl = [some (.ref n), some (.p (.int (most : Int))), some (.p (.int r)), some (.p (.int (pl : Int))), some (.p (.int (mn : Int))), some (.p (.lst (zs.map .str))), some (.p (.lst (kds.map .str))), some (.ref S3.length), some (.ref (S3.length + 1)), some (.ref (S3.length + 2)), some (.ref (S3.length + 3)), some (.p (.int (j : Int))), y, some (.p (.str (freshS z0 j))), some (.p s.p)]) ?_ ?_
    · intro R hR
      have e2 : ∀ a b c, (S6 ++ [a, b, strsC (madeBy ss), c])[S3.length + 2]? = some (strsC (madeBy ss)) := fun a b c => by rw [← hl6]; exact g2
      cases s with
      | read x' k' n' o' =>
        have hx : x' = freshS z0 j := by
          rcases hs2 with h | h
          · cases h
          · cases h; rfl
        subst hx
        rw [w_if]
        simp only [Stp.p, w_tB, w_b, w_ix, w_v, w_k, List.getElem?_cons_succ, List.getElem?_cons_zero, ix_pp, ixP, atI_0, opt_some, w_lift2, viewP, opEq_ok (show fin dpt (.str (Str.ofString "read")) = true from ok1) (show fin dpt (.str (Str.ofString "read")) = true from ok1), eqv, beq_self_eq_true, w_asB, if_true]
        refine app_by (fun d S7 => S7 = S6 ++ [habC hs, stpC ss, strsC (madeBy ss), plC pl hs] ∧ d = .p (.str (freshS z0 j))) rfl (e2 _ _ _) ?_ ?_
        · intro R hR
          simp
          exact hR _ _ ⟨rfl, rfl⟩
        · rintro _ _ ⟨rfl, rfl⟩
          refine ⟨_, e2 _ _ _, by simp; omega, ?_⟩
          simp
          refine hR _ _ ⟨?_, rfl⟩
          rw [← hl6, s2]
          simp [madeBy_snoc, Stp.made, strsC]
      | write k' n' o' v' =>
        simp [Stp.p, ixP, opEq_ok (show fin dpt (.str (Str.ofString "write")) = true from ok2) (show fin dpt (.str (Str.ofString "read")) = true from ok1), eqv]
        exact hR _ _ ⟨by simp [madeBy_snoc, Stp.made], rfl⟩
      | copy m' n' o' n2 o2 =>
        simp [Stp.p, ixP, opEq_ok (show fin dpt (.str (Str.ofString "copy")) = true from ok3) (show fin dpt (.str (Str.ofString "read")) = true from ok1), eqv]
        exact hR _ _ ⟨by simp [madeBy_snoc, Stp.made], rfl⟩
      | blank m' n' o' =>
        simp [Stp.p, ixP, opEq_ok (show fin dpt (.str (Str.ofString "blank")) = true from ok4) (show fin dpt (.str (Str.ofString "read")) = true from ok1), eqv]
        exact hR _ _ ⟨by simp [madeBy_snoc, Stp.made], rfl⟩
      | tell x' =>
        simp [Stp.p, ixP, opEq_ok (show fin dpt (.str (Str.ofString "tell")) = true from ok5) (show fin dpt (.str (Str.ofString "read")) = true from ok1), eqv]
        exact hR _ _ ⟨by simp [madeBy_snoc, Stp.made], rfl⟩
    rintro _ _ ⟨rfl, rfl⟩
    have e1 : ∀ a b c, (S6 ++ [a, stpC ss, b, c])[S3.length + 1]? = some (.lst (ss.map fun s => D.p s.p)) := fun a b c => by rw [← hl6]; exact g1
    refine app_by (fun d S7 => S7 = S6 ++ [habC hs, stpC ss, strsC (madeBy (ss ++ [s])), plC pl hs] ∧ d = .p s.p) rfl (e1 _ _ _) ?_ ?_
    · intro R hR
      simp
      exact hR _ _ ⟨rfl, rfl⟩
    rintro _ _ ⟨rfl, rfl⟩
    refine ⟨_, e1 _ _ _, by simp; omega, ?_⟩
    simp
    refine hR' _ _ ⟨ss ++ [s], S6, _, _, _, _, by simp [hl], okSteps_snoc hok2 (by simpa using hs1), ?_, u6, ?_, rfl⟩
    · intro x hx
      rw [madeBy_snoc] at hx
      rcases List.mem_append.mp hx with hx | hx
      · obtain ⟨i, hi, e⟩ := hfr x hx
        exact ⟨i, by omega, e⟩
      · rcases hs2 with h | h
        · rw [h] at hx; cases hx
        · rw [h] at hx
          simp at hx
          exact ⟨j, by omega, hx⟩
    · rw [← hl6, s1]
      simp [stpC]
  · rintro sl S6 ⟨ss, S5, x, y, z, w, hl, hok2, hfr, u5, rfl, rfl⟩
    have hl5 : S5.length = S3.length := u5.len.trans u3.len.symm
    let t : Txt := ⟨(hs.take pl).map fun q => (q.1, q.2.1), zs.drop pl, ss⟩
    have ht : t.names = zs := by
      show ((hs.take pl).map fun q => (q.1, q.2.1)).map (·.1) ++ zs.drop pl = zs
      rw [List.map_map, show ((fun x : Str × Str => x.1) ∘ fun q : Str × Str × Int => (q.1, q.2.1)) = (fun q => q.1) from rfl, List.map_take, hh, List.take_append_drop]
    have hok3 : t.ok := ⟨by simp [t]; omega, by simp [t]; omega, by rw [ht]; omega, by rw [ht]; exact hzs.nm, by rw [ht]; exact hzs.nd, by
      intro q hq
      obtain ⟨q', hq', rfl⟩ := List.mem_map.mp hq
      exact (hok q' (List.mem_of_mem_take hq')).1, by show ss.length ≤ 12; omega, by rw [ht]; exact hok2⟩
    have w1 : view (S5 ++ [habC hs, stpC ss, strsC (madeBy ss), plC pl hs]) (.ref (S3.length + 3)) = some (.lst ((hs.take pl).map fun q => placeP (q.1, q.2.1))) := by rw [← hl5]; exact view_map g3
    have w2 : view (S5 ++ [habC hs, stpC ss, strsC (madeBy ss), plC pl hs]) (.ref (S3.length + 1)) = some (.lst (ss.map fun s => s.p)) := by rw [← hl5]; exact view_map g1
    have e1 : Z.cutD (zs.map P.str) (some (pl : Int)) none = (zs.drop pl).map P.str := by
      unfold Z.cutD
      simp [HT.sIx]
      rw [if_neg (by omega), Nat.min_eq_left (by omega), List.take_of_length_le (by simp)]
    simp [w1, w2, slP, e1]
    refine hT _ S5 _ (.tup [t.pl, t.pt, t.st]) u5.len (u5.pure hp) ?_ ?_
    · simp [fzD, Txt.pl, Txt.pt, Txt.st, t]
      rfl
    · exact k t S5 hok3 (by rw [ht]; omega) (by simp [t]; omega) (by show 0 < ss.length; omega) (by show ss.length ≤ most; omega) u5
end
end Kw

namespace Z
open PySem PySem.Spec PyProof.Rows L2
/-! ### data with a short text -/
def sq : Nat → P → Bool
  | _, .non => true
  | _, .bl _ => true
  | _, .int i => decide (i.natAbs < 10 ^ 45)
  | _, .str z => chOk z && decide (z.length ≤ 1000)
  | n + 1, .lst xs => decide (xs.length ≤ 1000) && xs.all (sq n)
  | n + 1, .tup xs => decide (xs.length ≤ 1000) && xs.all (sq n)
  | _, _ => false
theorem sq_sm : ∀ (n : Nat) (p : P), sq n p = true → sm n p = true
  | 0, p, h => by cases p <;> simp_all [sq, sm]
  | n + 1, p, h => by
    cases p <;> simp_all [sq, sm]
    all_goals exact fun x hx => sq_sm n x (h.2 x hx)
theorem sq_mono : ∀ {n : Nat} {p : P}, sq n p = true → sq (n + 1) p = true
  | 0, p, h => by cases p <;> simp_all [sq]
  | n + 1, p, h => by
    cases p <;> simp_all [sq]
    all_goals exact fun x hx => sq_mono (h.2 x hx)
theorem sq_le {n m : Nat} {p : P} (h : sq n p = true) (hm : n ≤ m) : sq m p = true := by
  induction m with
  | zero => have : n = 0 := by omega
            subst this; exact h
  | succ m ih =>
    by_cases e : n = m + 1
    · subst e; exact h
    · exact sq_mono (ih (by omega))
mutual
def tl : P → Nat
  | .int _ => 50
  | .str z => 10 * z.length + 2
  | .lst ps => tlAll ps + 3
  | .tup ps => tlAll ps + 3
  | _ => 5
def tlAll : List P → Nat
  | [] => 0
  | p :: ps => tl p + 2 + tlAll ps
end
theorem tlAll_app : ∀ {xs ys : List P}, tlAll (xs ++ ys) = tlAll xs + tlAll ys
  | [], ys => by simp [tlAll]
  | x :: xs, ys => by simp [tlAll, tlAll_app (xs := xs)]; omega
theorem tlAll_sub : ∀ {xs ys : List P}, xs.Sublist ys → tlAll xs ≤ tlAll ys
  | _, _, .slnil => by simp
  | _, _, .cons a h => by have := tlAll_sub h; simp [tlAll]; omega
  | _, _, .cons₂ a h => by have := tlAll_sub h; simp [tlAll]; omega
theorem tlAll_bd {b : Nat} : ∀ {xs : List P}, (∀ x ∈ xs, tl x ≤ b) → tlAll xs ≤ xs.length * (b + 2)
  | [], _ => by simp [tlAll]
  | x :: xs, h => by
    have h1 := h x (List.mem_cons_self ..)
    have h2 := tlAll_bd (xs := xs) fun y hy => h y (List.mem_cons_of_mem _ hy)
    simp only [tlAll, List.length_cons, Nat.succ_mul]
    omega
theorem cut_sub {α : Type} {xs : List α} {lo hi : Option Int} : (Z.cutD xs lo hi).Sublist xs := by
  unfold Z.cutD
  exact (List.take_sublist _ _).trans (List.drop_sublist _ _)
theorem sum_shown {n : Nat} (ih : ∀ p, sq n p = true → ((py p).shown.length ≤ tl p ∧ (py p).showable = true)) : ∀ ps : List P, (∀ p ∈ ps, sq n p = true) → ((PyData.shownAll (pyAll ps)).map (·.length)).sum + 2 * (PyData.shownAll (pyAll ps)).length ≤ tlAll ps ∧ PyData.showableAll (pyAll ps) = true
  | [], _ => by simp [pyAll, PyData.shownAll, tlAll, PyData.showableAll]
  | p :: ps, h => by
    have h1 := ih p (h p (List.mem_cons_self ..))
    have h2 := sum_shown ih ps fun q hq => h q (List.mem_cons_of_mem _ hq)
    simp only [pyAll, PyData.shownAll, List.map_cons, List.sum_cons, List.length_cons, tlAll, PyData.showableAll, Bool.and_eq_true]
    exact ⟨by omega, h1.2, h2.2⟩
theorem log_lt {k : Nat} (h : k < 10 ^ 45) : k.log2 < 1920 := by
  by_cases h0 : k = 0
  · subst h0; decide
  · rw [Nat.log2_lt h0]
    exact Nat.lt_trans h (by decide)
theorem sq_shown : ∀ (n : Nat) (p : P), sq n p = true → ((py p).shown.length ≤ tl p ∧ (py p).showable = true) := by
  have base : ∀ (n : Nat) (p : P), (∀ xs, p ≠ .lst xs) → (∀ xs, p ≠ .tup xs) → sq n p = true → ((py p).shown.length ≤ tl p ∧ (py p).showable = true) := by
    intro n p h1 h2 h
    cases p with
    | non => exact ⟨by simp only [py, PyData.shown, tl]; decide, by simp [py, PyData.showable]⟩
    | bl b => exact ⟨by cases b <;> (simp only [py, PyData.shown, tl]; decide), by simp [py, PyData.showable]⟩
    | int i =>
      have hi : i.natAbs < 10 ^ 45 := by cases n <;> simpa [sq] using h
      have hs : (toString i).length ≤ 45 + 1 := int_text_length_le10 (by decide) hi
      refine ⟨?_, by simp only [py, PyData.showable, decide_eq_true_eq]; exact log_lt hi⟩
      simp only [py, PyData.shown, tl]
      have e : (Str.ofString (toString i)).length = (toString i).length := PySem.ofString_length _
      omega
    | str z =>
      have hz : chOk z = true ∧ z.length ≤ 1000 := by cases n <;> simpa [sq] using h
      refine ⟨?_, by simp [py, PyData.showable]⟩
      simp only [py, PyData.shown, tl]
      exact StrLaws.reprText_len z fun c hc => Nat.lt_trans (chOk_mem hz.1 c hc) (by decide)
    | lst xs => exact absurd rfl (h1 xs)
    | tup xs => exact absurd rfl (h2 xs)
    | _ => cases n <;> simp [sq] at h
  intro n
  induction n with
  | zero =>
    intro p h
    cases p with
    | lst xs => simp [sq] at h
    | tup xs => simp [sq] at h
    | _ => exact base 0 _ (by intros; exact fun h => nomatch h) (by intros; exact fun h => nomatch h) h
  | succ n ih =>
    intro p h
    cases p with
    | lst xs =>
      simp only [sq, Bool.and_eq_true, List.all_eq_true] at h
      obtain ⟨h1, h2⟩ := sum_shown ih xs h.2
      simp only [py, PyData.shown, tl, PyData.showable]
      exact ⟨by have := listText_len_le (PyData.shownAll (pyAll xs)); omega, h2⟩
    | tup xs =>
      simp only [sq, Bool.and_eq_true, List.all_eq_true] at h
      obtain ⟨h1, h2⟩ := sum_shown ih xs h.2
      simp only [py, PyData.shown, tl, PyData.showable]
      exact ⟨by have := tupleText_len_le (PyData.shownAll (pyAll xs)); omega, h2⟩
    | _ => exact base (n + 1) _ (by intros; exact fun h => nomatch h) (by intros; exact fun h => nomatch h) h
theorem sq_sh {n : Nat} {p : P} (h : sq n p = true) (ht : tl p ≤ 1000000) (hn : n ≤ 24 := by decide) : shOk p = true := by
  obtain ⟨h1, h2⟩ := sq_shown n p h
  unfold shOk
  rw [sm_dpt (sq_sm n p h) hn, h2, decide_eq_true (Nat.le_trans h1 ht)]
  rfl
theorem repr_ok {n : Nat} {p : P} (h : sq n p = true) (ht : tl p ≤ 1000000) (hn : n ≤ 24 := by decide) : reprP [p] = some (.str (py p).shown) := by
  simp only [reprP, if_pos (sq_sh h ht hn)]
theorem sq_lst {n : Nat} {xs : List P} (h : ∀ x ∈ xs, sq n x = true) (hl : xs.length ≤ 1000) : sq (n + 1) (.lst xs) = true := by
  simp only [sq, Bool.and_eq_true, List.all_eq_true, decide_eq_true_eq]
  exact ⟨hl, h⟩
theorem sq_tup {n : Nat} {xs : List P} (h : ∀ x ∈ xs, sq n x = true) (hl : xs.length ≤ 1000) : sq (n + 1) (.tup xs) = true := by
  simp only [sq, Bool.and_eq_true, List.all_eq_true, decide_eq_true_eq]
  exact ⟨hl, h⟩
theorem sq_name {n : Nat} {z : Str} (h : isNameS z = true) : sq n (.str z) = true := by
  have := name_len h
  have h2 := name_ch h
  cases n <;> simp [sq, h2] <;> omega
theorem kind_ch {z : Str} (h : isKindS z = true) : chOk z = true := chOk_of fun c hc => by
  have hl := kind_len h
  unfold isKindS at h
  simp only [Bool.and_eq_true, decide_eq_true_eq] at h
  obtain ⟨⟨h1, h2⟩, h3, h4, h5⟩ := h
  have hlast : (cs z).getLast? = some (lastCp z) := by
    unfold lastCp
    cases hz : cs z with
    | nil => have := cs_len z; rw [hz] at this; simp at this; omega
    | cons a b => simp [List.getLast?_cons]
  rcases List.mem_iff_getElem.mp hc with ⟨i, hi, e⟩
  have hcl := cs_len z
  by_cases hi' : i = (cs z).length - 1
  · have : c = lastCp z := by
      rw [List.getLast?_eq_getElem?, ← hi', List.getElem?_eq_getElem hi, e] at hlast
      cases hlast; rfl
    subst this
    have := of_decide_eq_true h4
    exact signs_small _ (by rw [signs_split]; exact List.mem_append_right _ this)
  · have : c ∈ cs (cutS z none (some (-1))) := by
      rw [cs_cut]
      unfold Z.cutD
      refine List.mem_iff_getElem.mpr ⟨i, ?_, ?_⟩
      · simp [HT.sIx]; omega
      · simp [HT.sIx]; exact e
    have := of_decide_eq_true (List.all_eq_true.mp h3 c this)
    exact signs_small _ (by rw [signs_split]; exact List.mem_append_left _ this)
theorem sq_kind {n : Nat} {z : Str} (h : isKindS z = true) : sq n (.str z) = true := by
  have := kind_len h
  have h2 := kind_ch h
  cases n <;> simp [sq, h2] <;> omega
theorem sq_int {n : Nat} {i : Int} (h : i.natAbs < 10 ^ 45) : sq n (.int i) = true := by
  cases n <;> simpa [sq] using h
theorem okStep_names {names : List Str} {vals : List Str} {s : Stp} (h : s.ok names vals) (hn : ∀ z ∈ names, isNameS z = true) (hv : ∀ z ∈ vals, isNameS z = true) : ∃ w ps, s.p = .tup (.str w :: ps) ∧ (∀ q ∈ P.str w :: ps, sq 0 q = true) ∧ ps.length ≤ 5 ∧ (∀ q ∈ P.str w :: ps, tl q ≤ 90) := by
  have tn : ∀ z, isNameS z = true → tl (.str z) ≤ 90 := fun z hz => by have := name_len hz; simp [tl]; omega
  have tk : ∀ z, isKindS z = true → tl (.str z) ≤ 90 := fun z hz => by have := kind_len hz; simp [tl]; omega
  cases s with
  | read x k n o =>
    obtain ⟨h1, h2, h3, h4, h5, h6, h7⟩ := h
    have hsz := kind_sz h4
    refine ⟨_, _, rfl, ?_, by simp, ?_⟩
    · intro q hq
      simp only [List.mem_cons, List.not_mem_nil, or_false] at hq
      rcases hq with rfl | rfl | rfl | rfl | rfl
      · decide +kernel
      · exact sq_name h1
      · exact sq_kind h4
      · exact sq_name (hn _ h5)
      · exact sq_int (by omega)
    · intro q hq
      simp only [List.mem_cons, List.not_mem_nil, or_false] at hq
      rcases hq with rfl | rfl | rfl | rfl | rfl
      · decide +kernel
      · exact tn _ h1
      · exact tk _ h4
      · exact tn _ (hn _ h5)
      · simp [tl]
  | write k n o v =>
    obtain ⟨h4, h5, h6, h7, h8⟩ := h
    have hsz := kind_sz h4
    refine ⟨_, _, rfl, ?_, by simp, ?_⟩
    · intro q hq
      simp only [List.mem_cons, List.not_mem_nil, or_false] at hq
      rcases hq with rfl | rfl | rfl | rfl | rfl
      · decide +kernel
      · exact sq_kind h4
      · exact sq_name (hn _ h5)
      · exact sq_int (by omega)
      · rcases h8 with ⟨i, rfl, hi⟩ | ⟨x, hx, rfl⟩
        · exact sq_int (by unfold absI at hi; split at hi <;> omega)
        · exact sq_name (hv _ hx)
    · intro q hq
      simp only [List.mem_cons, List.not_mem_nil, or_false] at hq
      rcases hq with rfl | rfl | rfl | rfl | rfl
      · decide +kernel
      · exact tk _ h4
      · exact tn _ (hn _ h5)
      · simp [tl]
      · rcases h8 with ⟨i, rfl, hi⟩ | ⟨x, hx, rfl⟩
        · simp [tl]
        · exact tn _ (hv _ hx)
  | copy m n o n' o' =>
    obtain ⟨h1, h2, h3, h4, h5, h6, h7⟩ := h
    refine ⟨_, _, rfl, ?_, by simp, ?_⟩
    · intro q hq
      simp only [List.mem_cons, List.not_mem_nil, or_false] at hq
      rcases hq with rfl | rfl | rfl | rfl | rfl | rfl
      · decide +kernel
      · exact sq_int (by omega)
      · exact sq_name (hn _ h2)
      · exact sq_int (by omega)
      · exact sq_name (hn _ h5)
      · exact sq_int (by omega)
    · intro q hq
      simp only [List.mem_cons, List.not_mem_nil, or_false] at hq
      rcases hq with rfl | rfl | rfl | rfl | rfl | rfl
      · decide +kernel
      · simp [tl]
      · exact tn _ (hn _ h2)
      · simp [tl]
      · exact tn _ (hn _ h5)
      · simp [tl]
  | blank m n o =>
    obtain ⟨h1, h2, h3, h4⟩ := h
    refine ⟨_, _, rfl, ?_, by simp, ?_⟩
    · intro q hq
      simp only [List.mem_cons, List.not_mem_nil, or_false] at hq
      rcases hq with rfl | rfl | rfl | rfl
      · decide +kernel
      · exact sq_int (by omega)
      · exact sq_name (hn _ h2)
      · exact sq_int (by omega)
    · intro q hq
      simp only [List.mem_cons, List.not_mem_nil, or_false] at hq
      rcases hq with rfl | rfl | rfl | rfl
      · decide +kernel
      · simp [tl]
      · exact tn _ (hn _ h2)
      · simp [tl]
  | tell x =>
    refine ⟨_, _, rfl, ?_, by simp, ?_⟩
    · intro q hq
      simp only [List.mem_cons, List.not_mem_nil, or_false] at hq
      rcases hq with rfl | rfl
      · decide +kernel
      · exact sq_name (hv _ h)
    · intro q hq
      simp only [List.mem_cons, List.not_mem_nil, or_false] at hq
      rcases hq with rfl | rfl
      · decide +kernel
      · exact tn _ (hv _ h)
theorem made_name {names vals : List Str} {s : Stp} (h : s.ok names vals) : ∀ z ∈ s.made, isNameS z = true := by
  cases s with
  | read x k n o => intro z hz; simp [Stp.made] at hz; subst hz; exact h.1
  | _ => intro z hz; simp [Stp.made] at hz
theorem okSteps_each {names : List Str} : ∀ {vals : List Str} {ss : List Stp}, okSteps names vals ss → (∀ z ∈ vals, isNameS z = true) → ∀ s ∈ ss, ∃ vs, s.ok names vs ∧ ∀ z ∈ vs, isNameS z = true
  | vals, [], _, _, s, hs => by cases hs
  | vals, t :: ss, h, hv, s, hs => by
    rcases List.mem_cons.mp hs with rfl | hs
    · exact ⟨vals, h.1, hv⟩
    · exact okSteps_each h.2 (fun z hz => by
        rcases List.mem_append.mp hz with hz | hz
        · exact hv z hz
        · exact made_name h.1 z hz) s hs
/-- the parts of a step of a valid text -/
theorem Txt.ok.each {t : Txt} (h : t.ok) : ∀ s ∈ t.steps, ∃ w ps, s.p = .tup (.str w :: ps) ∧ (∀ q ∈ P.str w :: ps, sq 0 q = true) ∧ ps.length ≤ 5 ∧ (∀ q ∈ P.str w :: ps, tl q ≤ 90) := fun s hs => by
  obtain ⟨vs, h1, h2⟩ := okSteps_each h.st (by simp) s hs
  exact okStep_names h1 h.nm h2
end Z

namespace Z
open PySem PySem.Spec PyProof.Rows L2
/-! ### what the newer forms end with -/
section
variable {S : Store} {sl : Slots} {E : Xc → Store → Prop} {R : D → Store → Prop} {F : Xc → Slots → Store → Prop} {N : Slots → Store → Prop} {T : D → Store → Prop}
@[simp] theorem w_sm {f : Str → List P → Option P} {mo : M} {ma : MA} : (eSm f mo ma sl S).sx E R = (mo sl S).sx E fun d S1 => match d with
    | .p (.str z) => (ma sl S1).sx E fun ds S2 => opt (views S2 ds) fun ps => opt (f z ps) fun q => R (.p q) S2
    | _ => False := by
  unfold eSm; rw [sx_bind]; congr 1; funext d S1
  cases d with
  | ref n => simp
  | p q =>
    cases q <;> first
      | (simp; done)
      | skip
    simp only [sx_bind]
    congr 1; funext ds S2
    cases views S2 ds with
    | none => simp
    | some ps =>
      simp only [opt_some]
      rename_i z
      cases f z ps <;> simp
def jsQ : List M → Str → Slots → Store → (Xc → Store → Prop) → (Str → Store → Prop) → Prop
  | [], acc, _, S, _, Q => Q acc S
  | m :: ms, acc, sl, S, E, Q => (m sl S).sx E fun d S1 => match d with
    | .p (.str y) => (acc ++ y).length ≤ sizeLine ∧ jsQ ms (acc ++ y) sl S1 E Q
    | _ => False
theorem jsL_sx : ∀ (ms : List M) (acc : Str) (sl : Slots) (S : Store) (E : Xc → Store → Prop) (Q : Str → Store → Prop), (jsL ms acc sl S).sx E Q = jsQ ms acc sl S E Q
  | [], acc, sl, S, E, Q => by simp [jsL, jsQ]
  | m :: ms, acc, sl, S, E, Q => by
    unfold jsL jsQ
    rw [sx_bind]
    congr 1; funext d S1
    cases d with
    | ref n => simp
    | p q =>
      cases q <;> first
        | (simp; done)
        | skip
      rename_i y
      show (if (acc ++ y).length ≤ sizeLine then jsL ms (acc ++ y) sl S1 else .no).sx E Q = _
      rw [cnd_sx, jsL_sx ms]
@[simp] theorem w_js {ms : List M} : (eJs ms sl S).sx E R = jsQ ms Str.empty sl S E fun z S1 => R (.p (.str z)) S1 := by
  unfold eJs; rw [sx_bind, jsL_sx]; simp only [sx_ok]
@[simp] theorem jsQ_nil {acc : Str} {Q : Str → Store → Prop} : jsQ [] acc sl S E Q = Q acc S := rfl
@[simp] theorem jsQ_cons {acc : Str} {m : M} {ms : List M} {Q : Str → Store → Prop} : jsQ (m :: ms) acc sl S E Q = (m sl S).sx E fun d S1 => match d with
    | .p (.str y) => (acc ++ y).length ≤ sizeLine ∧ jsQ ms (acc ++ y) sl S1 E Q
    | _ => False := rfl
@[simp] theorem w_sNo : (sNo sl S).sx F N T = False := by unfold sNo; simp
@[simp] theorem w_tryN {mb : MS} : (sTryN mb sl S).sx noF N T = (mb sl S).sx noF N T := by
  unfold sTryN
  cases mb sl S <;> simp
theorem w_tryF {mb : MS} (h : (mb sl S).sx noF N T) : (sTryN mb sl S).sx F N T := by
  unfold sTryN
  cases hm : mb sl S <;> rw [hm] at h <;> first | exact h.out.elim | exact ⟨h.out⟩
@[simp] theorem w_match {m : M} {cs : List (List PatE × MS)} : (sMatch m cs sl S).sx F N T = (m sl S).sx (atS F sl) fun d S1 => match view S1 d with
    | some (.lst ps) => (matchL cs ps sl S1).sx F N T
    | _ => False := by
  unfold sMatch; rw [fsx_st]; congr 1; funext d S1
  cases view S1 d with
  | none => simp
  | some q => cases q <;> simp
@[simp] theorem w_fld {cs : List Str} {f : Str} {m : M} : (eFld cs f m sl S).sx E R = (m sl S).sx E fun d S1 => (fldG cs f S1 d).sx E R := by unfold eFld; rw [sx_bind]
theorem fld_p {cs : List Str} {f c : Str} {ks : List Str} {ps : List P} {p : P} (hc : c ∈ cs) (h : lookF ks (ps.map D.p) f = some (.p p)) : (fldG cs f S (.p (.ins c ks ps))).sx E R = R (.p p) S := by
  unfold fldG
  simp only [insOf, if_pos hc, h, sx_ok]
@[simp] theorem w_eqX {cn : Str} {f : Fn} {neg : Bool} {m1 m2 : M} : (eEqX cn f neg m1 m2 sl S).sx E R = (m1 sl S).sx E fun d1 S1 => (m2 sl S1).sx E fun d2 S2 => (eqG cn f neg d1 d2 S2).sx E R := by
  unfold eEqX; simp only [sx_bind]
@[simp] theorem w_cmeth {cn : Str} {n : Nat} {dfl : List P} {f : Fn} {mo : M} {ma : MA} : (eCMeth cn n dfl f mo ma sl S).sx E R = (mo sl S).sx E fun d S1 => match d with
    | .p (.glo c) => c = cn ∧ (ma sl S1).sx E fun ds S2 => ds.length = n ∧ (f (.p (.glo cn) :: (ds ++ dfl.map .p)) S2).sx E R
    | _ => False := by
  unfold eCMeth; rw [sx_bind]; congr 1; funext d S1
  cases d with
  | ref n => simp
  | p q =>
    cases q <;> first
      | (simp; done)
      | skip
    simp only [cnd_sx, sx_bind]
theorem w_makeL {cn : Str} {n i : Nat} {dfl : List P} {f : Fn} {ma : MA} (h : sl[i]? = some (some (.p (.glo cn)))) : eMakeL cn n dfl f i ma sl S = eMake cn n dfl f ma sl S := by
  unfold eMakeL; rw [h]; simp only [if_true]
theorem w_make {cn : Str} {n : Nat} {dfl : List P} {f : Fn} {ma : MA} : (eMake cn n dfl f ma sl S).sx E R = (ma sl S).sx E fun ds S1 => ds.length = n ∧ (f (.ref S1.length :: (ds ++ dfl.map .p)) (S1 ++ [.ins cn [] []])).sx E fun d S2 => d = .p .non ∧ R (.ref S1.length) S2 := by
  unfold eMake; rw [sx_bind]; congr 1; funext ds S1
  rw [cnd_sx]; congr 1
  cases f (.ref S1.length :: (ds ++ dfl.map .p)) (S1 ++ [.ins cn [] []]) with
  | ok d S2 =>
    cases d with
    | ref _ => simp
    | p q => cases q <;> simp
  | exc x S2 => simp
  | no => simp
@[simp] theorem w_lcL {ms : MI} {eff : Eff} {t : MT} {me : M} {own : List Nat} : (eLcL ms eff t me own sl S).sx E R = (ms sl S).sx E fun its S1 => (lcL eff t me own sl its [] S1).sx E fun ps S2 => R (.ref S2.length) (S2 ++ [.lst (ps.map .p)]) := by unfold eLcL; simp only [sx_bind, sx_ok]
@[simp] theorem w_listL {ma : MA} : (eListL ma sl S).sx E R = (ma sl S).sx E fun ds S1 => opt (views S1 ds) fun qs => opt (listP qs) fun q => match q with
    | .lst ps => R (.ref S1.length) (S1 ++ [.lst (ps.map .p)])
    | _ => False := by
  unfold eListL; rw [sx_bind]; congr 1; funext ds S1
  cases views S1 ds with
  | none => simp
  | some qs =>
    simp only [opt_some]
    cases listP qs with
    | none => simp
    | some q => cases q <;> simp
@[simp] theorem w_ext {mo me : M} : (eExt mo me sl S).sx E R = (mo sl S).sx E fun d S1 => match d with
    | .ref n => (match S1[n]? with
      | some (.lst _) => (me sl S1).sx E fun a S2 => match S2[n]?, view S2 a with
        | some (.lst ds), some (.lst ps) => ds.length + ps.length ≤ sizeLine ∧ R (.p .non) (S2.set n (.lst (ds ++ ps.map .p)))
        | _, _ => False
      | _ => False)
    | _ => False := by
  unfold eExt; rw [sx_bind]; congr 1; funext d S1
  cases d with
  | p q => simp
  | ref n =>
    simp only []
    cases S1[n]? with
    | none => simp
    | some c =>
      cases c <;> first
        | (simp; done)
        | skip
      simp only [sx_bind]
      congr 1; funext a S2
      cases S2[n]? with
      | none => simp
      | some c' =>
        cases c' <;> first
          | (simp; done)
          | skip
        cases view S2 a with
        | none => simp
        | some q =>
          cases q <;> first
            | (simp; done)
            | skip
          simp only [cnd_sx, sx_ok]
@[simp] theorem w_fldS {cs : List Str} {f : Str} {mo me : M} : (sFldS cs f mo me sl S).sx F N T = (me sl S).sx (atS F sl) fun v S1 => (mo sl S1).sx (atS F sl) fun d S2 => match d with
    | .ref n => (match S2[n]? with
      | some (.ins c ks ds) => (c ∈ cs ∧ ks.length < 1000) ∧ N sl (S2.set n (.ins c (putFk f ks) (putFv f v ks ds)))
      | _ => False)
    | _ => False := by
  unfold sFldS; rw [fsx_st]; congr 1; funext v S1; rw [fsx_st]; congr 1; funext d S2
  cases d with
  | p q => simp
  | ref n =>
    simp only []
    cases S2[n]? with
    | none => simp
    | some c => cases c <;> simp [cndF_sx]
/-! ### frozen -/
def clSt (S : Store) : Prop := S.all (clCb S.length) = true
theorem pureSt.clSt {S : Store} (h : pureSt S) : clSt S := h.cl _
theorem clCb_up {n m : Nat} {c : Cell} (h : clCb n c = true) (hm : n ≤ m) : clCb m c = true := by
  have kd : ∀ d : D, clDb n d = true → clDb m d = true := fun d h => by
    cases d with
    | p _ => rfl
    | ref k => simp [clDb] at h ⊢; omega
  have key : ∀ ds : List D, ds.all (clDb n) = true → ds.all (clDb m) = true := fun ds h => List.all_eq_true.mpr fun d hd => kd d (List.all_eq_true.mp h d hd)
  cases c with
  | lst ds => exact key ds h
  | dic _ _ ds => exact key ds h
  | ins _ _ ds => exact key ds h
  | dead => rfl
theorem clSt.app {S L : Store} (h : clSt S) (hL : ∀ c ∈ L, clCb (S ++ L).length c = true) : clSt (S ++ L) := List.all_eq_true.mpr fun c hc => by
  rcases List.mem_append.mp hc with hc | hc
  · exact clCb_up (List.all_eq_true.mp h c hc) (by simp)
  · exact hL c hc
theorem froz_at {r : Rs D} (hS : clSt S) (h : ∀ (E' : Xc → Store → Prop) (R' : D → Store → Prop), (∀ x L, E x S → E' x (S ++ L)) → (∀ d L p, fzD (S ++ L) S.length 8 d = some p → R (.p p) S → R' d (S ++ L)) → r.sx E' R') : (froz S.length r).sx E R := by
  have h := h (fun x S' => ∃ L, S' = S ++ L ∧ E x S) (fun d S' => ∃ L p, S' = S ++ L ∧ fzD S' S.length 8 d = some p ∧ R (.p p) S) (fun _ L h => ⟨L, rfl, h⟩) (fun _ L p h1 h2 => ⟨L, p, rfl, h1, h2⟩)
  cases r with
  | no => exact h.out.elim
  | exc x S' =>
    obtain ⟨L, rfl, hE⟩ := h.out
    have e : (S ++ L).take S.length = S := List.take_left
    have hS' : S.all (clCb S.length) = true := hS
    simp only [froz, e, hS', if_true, sx_exc]
    exact hE
  | ok d S' =>
    obtain ⟨L, p, rfl, hf, hR⟩ := h.out
    have e : (S ++ L).take S.length = S := List.take_left
    have hS' : S.all (clCb S.length) = true := hS
    simp only [froz, e, hS', if_true]
    cases d with
    | p q => simp only [fzD, Option.some.injEq] at hf; subst hf; simp only [fzR, e, sx_ok]; exact hR
    | ref m =>
      have hm : ¬ m < S.length := fun hm => by simp only [fzD, if_pos hm] at hf; cases hf
      simp only [fzR, if_neg hm, hf, e, sx_ok]
      exact hR
/-- a def whose caller's store stands still -/
theorem runZ_at {n : Nat} {b : MS} {ds : List D} (hS : clSt S) (h : ∀ (F : Xc → Slots → Store → Prop) (N : Slots → Store → Prop) (T : D → Store → Prop), (∀ x sl L, E x S → F x sl (S ++ L)) → (∀ sl L, R (.p .non) S → N sl (S ++ L)) → (∀ d L p, fzD (S ++ L) S.length 8 d = some p → R (.p p) S → T d (S ++ L)) → (b (ent n ds) S).sx F N T) : (runZ n b ds S).sx E R := by
  unfold runZ
  refine froz_at hS fun E' R' h1 h2 => ?_
  rw [w_runB]
  exact h _ _ _ (fun x _ L => h1 x L) (fun _ L h => h2 _ L _ rfl h) h2
theorem fz_at {m : M} (hS : clSt S) (h : ∀ (E' : Xc → Store → Prop) (R' : D → Store → Prop), (∀ x L, E x S → E' x (S ++ L)) → (∀ d L p, fzD (S ++ L) S.length 8 d = some p → R (.p p) S → R' d (S ++ L)) → (m sl S).sx E' R') : (eFz m sl S).sx E R := froz_at hS h
end
end Z

namespace Z
open PySem PySem.Spec PyProof.Rows L2
section
variable {S : Store} {sl : Slots} {E : Xc → Store → Prop} {R : D → Store → Prop}
theorem any_strs {z : Str} : ∀ zs : List Str, ((zs.map P.str).any fun x => eqv x (.str z)) = decide (z ∈ zs)
  | [] => by simp
  | y :: ys => by
    simp only [List.map_cons, List.any_cons, any_strs ys, eqv]
    by_cases h : y = z
    · subst h; simp
    · have h' : ¬ z = y := fun e => h e.symm
      simp [h, h']
theorem opIn_strs {zs : List Str} {z : Str} (h : ∀ y ∈ zs, isNameS y = true) (hz : isNameS z = true) : opIn (.str z) (.lst (zs.map .str)) = some (.bl (decide (z ∈ zs))) := by
  have h1 : fin dpt (.str z) = true := name_ch hz
  have h2 : fin dpt (.lst (zs.map .str)) = true := fin_strs h
  simp only [opIn, h1, h2, true_and, if_true, any_strs]
theorem in_pl {zs : List Str} {z : Str} (h : ∀ y ∈ zs, isNameS y = true) (hz : isNameS z = true) {neg : Bool} : (inG neg (.p (.str z)) (.p (.lst (zs.map .str))) S).sx E R = R (.p (.bl (xor neg (decide (z ∈ zs))))) S := by
  cases neg <;> simp [inG, dicOf, view, opNotIn, opIn_strs h hz, notP]
theorem in_rl {zs : List Str} {z : Str} {v : Nat} (hv : S[v]? = some (strsC zs)) (h : ∀ y ∈ zs, isNameS y = true) (hz : isNameS z = true) {neg : Bool} : (inG neg (.p (.str z)) (.ref v) S).sx E R = R (.p (.bl (xor neg (decide (z ∈ zs))))) S := by
  have hd : dicOf S (.ref v) = none := by simp [dicOf, hv, strsC]
  cases neg <;> simp [inG, hd, view_strs hv, opNotIn, opIn_strs h hz, notP] <;> simp [view, opIn_strs h hz, notP]
theorem strsC_snoc {vs : List Str} {z : Str} : Cell.lst ((vs.map fun z => D.p (.str z)) ++ [.p (.str z)]) = strsC (vs ++ [z]) := by simp [strsC]
theorem fz_strs {vs : List Str} {L : Store} : fzD (S ++ [strsC vs]) S.length 8 (.ref S.length) = some (.lst (vs.map .str)) := by
  simp only [fzD, Nat.lt_irrefl, if_false, get_last, strsC]
  rw [mapO_map (g := fun z => D.p (.str z)) (h := P.str) (fun x => by simp only [fzD])]
  rfl
theorem sm_name {n : Nat} {z : Str} (h : isNameS z = true) : sm n (.str z) = true := sq_sm n _ (sq_name h)
theorem sm_kind {n : Nat} {z : Str} (h : isKindS z = true) : sm n (.str z) = true := sq_sm n _ (sq_kind h)
end
end Z
namespace Kw
open PySem PySem.Spec PyProof.Rows L2 Z
section
variable {S : Store} {n : Nat} {p : Z.P}
theorem name_call {z : Str} (h : isNameS z = true) : f_is_name [.p (.str z)] S = .ok (.p (.bl true)) S := by rw [is_name_eq (n := 0) (sm_name h)]; simp [isNameP, h]
theorem kind_call {z : Str} (h : isKindS z = true) : f_is_kind [.p (.str z)] S = .ok (.p (.bl true)) S := by rw [is_kind_eq (n := 0) (sm_kind h)]; simp [isKindP, h]
theorem check_places_eq {ps : List (Str × Str)} (hS : clSt S) (hl : ps.length ≤ 2) (hn : ∀ q ∈ ps, isNameS q.1 = true ∧ isKindS q.2 = true) (hd : (ps.map (·.1)).Nodup) : f_check_places [.p (.tup (ps.map placeP))] S = .ok (.p (.lst ((ps.map (·.1)).map .str))) S := by
  apply Rs.sx.eq
  unfold f_check_places b_check_places
  refine runZ_at hS fun F N T _ _ hT => ?_
  refine step_if (b := false) (S' := S) (tok ?_) (fun h => nomatch h) fun _ => ?_
  · simp [List.replicate]; omega
  refine set_by (fun d S1 => d = .ref S.length ∧ S1 = S ++ [strsC []]) (fun R hR => ?_) ?_
  · simp; exact hR _ _ ⟨rfl, by simp [strsC]⟩
  rintro _ _ ⟨rfl, rfl⟩
  refine seq_by (fun sl S1 => S1 = S ++ [strsC (ps.map (·.1))] ∧ ∃ x y, sl = [some (.p (.tup (ps.map placeP))), some (.ref S.length), x, y]) (fun R hR => ?_) ?_
  · simp [List.replicate]
    refine loop_iR (fun i sl S1 => S1 = S ++ [strsC ((ps.map (·.1)).take i)] ∧ ∃ x y, sl = [some (.p (.tup (ps.map placeP))), some (.ref S.length), x, y]) ?_ ?_ ⟨by simp, none, none, rfl⟩
    · rintro i q sl S1 hq ⟨rfl, x, y, rfl⟩
      obtain ⟨p, hp', rfl⟩ := enum_get hq
      obtain ⟨z, hz, rfl⟩ : ∃ z, ps[i]? = some z ∧ p = placeP z := by
        rw [List.getElem?_map] at hp'
        cases hz : ps[i]? with
        | none => rw [hz] at hp'; cases hp'
        | some z => rw [hz] at hp'; cases hp'; exact ⟨z, rfl, rfl⟩
      obtain ⟨hi, hze⟩ := List.getElem?_eq_some_iff.mp hz
      have hzm : z ∈ ps := List.mem_of_getElem? hz
      obtain ⟨hn1, hn2⟩ := hn z hzm
      refine ⟨_, rfl, fun R' hR' => ?_⟩
      refine step_if (b := false) (tok ?_) (fun h => nomatch h) fun _ => ?_
      · simp [placeP, ixP, name_call hn1, kind_call hn2]
      have hall : ∀ y ∈ (ps.map (·.1)).take i, isNameS y = true := fun y hy => by
        obtain ⟨q, hq, rfl⟩ := List.mem_map.mp (List.mem_of_mem_take hy)
        exact (hn q hq).1
      have hnot : z.1 ∉ (ps.map (·.1)).take i := by
        intro hc
        obtain ⟨j, hj, e⟩ := List.mem_iff_getElem.mp hc
        simp at hj e
        have := nodup_get hd (j := j) (k := i) (z := z.1) (by rw [List.getElem?_map, List.getElem?_eq_getElem (by omega)]; simp [e]) (by rw [List.getElem?_map, hz]; rfl)
        omega
      refine step_if (b := false) (S' := S ++ [strsC ((ps.map (·.1)).take i)]) (tok ?_) (fun h => nomatch h) fun _ => ?_
      · simp [placeP, ixP]
        rw [in_rl get_last hall hn1]
        simp
        simpa using hnot
      refine app_by (fun d S1 => d = .p (.str z.1) ∧ S1 = S ++ [strsC ((ps.map (·.1)).take i)]) rfl get_last (fun R hR => ?_) ?_
      · simp [placeP, ixP]
        exact hR _ _ ⟨rfl, by simp⟩
      rintro _ _ ⟨rfl, rfl⟩
      refine ⟨_, get_last, by simp; omega, ?_⟩
      rw [strsC_snoc, set_last, w_nil]
      refine hR' _ _ ⟨?_, _, _, rfl⟩
      rw [List.take_succ, List.getElem?_map, hz]
      rfl
    · rintro sl S1 ⟨rfl, x, y, rfl⟩
      refine hR _ _ ⟨?_, x, y, rfl⟩
      rw [enum_len, List.length_map, List.take_of_length_le (by simp)]
  rintro _ _ ⟨rfl, x, y, rfl⟩
  simp
  exact hT _ _ _ (fz_strs (L := [])) ⟨by simp, rfl⟩
end
end Kw

namespace Z
open PySem PySem.Spec PyProof.Rows L2
theorem opEq_w {a b : Str} (ha : chOk a = true) (hb : chOk b = true) : opEq (.str a) (.str b) = some (.bl (decide (a = b))) := by
  rw [opEq_ok (show fin dpt (.str a) = true from ha) (show fin dpt (.str b) = true from hb)]
  simp only [eqv]
  by_cases h : a = b <;> simp [h]
@[simp] theorem q_read_read : opEq (.str (Str.ofString "read")) (.str (Str.ofString "read")) = some (.bl true) := by rw [opEq_w Kw.ok1 Kw.ok1]; rfl
@[simp] theorem q_read_write : opEq (.str (Str.ofString "read")) (.str (Str.ofString "write")) = some (.bl false) := by rw [opEq_w Kw.ok1 Kw.ok2]; rfl
@[simp] theorem q_read_copy : opEq (.str (Str.ofString "read")) (.str (Str.ofString "copy")) = some (.bl false) := by rw [opEq_w Kw.ok1 Kw.ok3]; rfl
@[simp] theorem q_read_blank : opEq (.str (Str.ofString "read")) (.str (Str.ofString "blank")) = some (.bl false) := by rw [opEq_w Kw.ok1 Kw.ok4]; rfl
@[simp] theorem q_read_tell : opEq (.str (Str.ofString "read")) (.str (Str.ofString "tell")) = some (.bl false) := by rw [opEq_w Kw.ok1 Kw.ok5]; rfl
@[simp] theorem q_write_read : opEq (.str (Str.ofString "write")) (.str (Str.ofString "read")) = some (.bl false) := by rw [opEq_w Kw.ok2 Kw.ok1]; rfl
@[simp] theorem q_write_write : opEq (.str (Str.ofString "write")) (.str (Str.ofString "write")) = some (.bl true) := by rw [opEq_w Kw.ok2 Kw.ok2]; rfl
@[simp] theorem q_write_copy : opEq (.str (Str.ofString "write")) (.str (Str.ofString "copy")) = some (.bl false) := by rw [opEq_w Kw.ok2 Kw.ok3]; rfl
@[simp] theorem q_write_blank : opEq (.str (Str.ofString "write")) (.str (Str.ofString "blank")) = some (.bl false) := by rw [opEq_w Kw.ok2 Kw.ok4]; rfl
@[simp] theorem q_write_tell : opEq (.str (Str.ofString "write")) (.str (Str.ofString "tell")) = some (.bl false) := by rw [opEq_w Kw.ok2 Kw.ok5]; rfl
@[simp] theorem q_copy_read : opEq (.str (Str.ofString "copy")) (.str (Str.ofString "read")) = some (.bl false) := by rw [opEq_w Kw.ok3 Kw.ok1]; rfl
@[simp] theorem q_copy_write : opEq (.str (Str.ofString "copy")) (.str (Str.ofString "write")) = some (.bl false) := by rw [opEq_w Kw.ok3 Kw.ok2]; rfl
@[simp] theorem q_copy_copy : opEq (.str (Str.ofString "copy")) (.str (Str.ofString "copy")) = some (.bl true) := by rw [opEq_w Kw.ok3 Kw.ok3]; rfl
@[simp] theorem q_copy_blank : opEq (.str (Str.ofString "copy")) (.str (Str.ofString "blank")) = some (.bl false) := by rw [opEq_w Kw.ok3 Kw.ok4]; rfl
@[simp] theorem q_copy_tell : opEq (.str (Str.ofString "copy")) (.str (Str.ofString "tell")) = some (.bl false) := by rw [opEq_w Kw.ok3 Kw.ok5]; rfl
@[simp] theorem q_blank_read : opEq (.str (Str.ofString "blank")) (.str (Str.ofString "read")) = some (.bl false) := by rw [opEq_w Kw.ok4 Kw.ok1]; rfl
@[simp] theorem q_blank_write : opEq (.str (Str.ofString "blank")) (.str (Str.ofString "write")) = some (.bl false) := by rw [opEq_w Kw.ok4 Kw.ok2]; rfl
@[simp] theorem q_blank_copy : opEq (.str (Str.ofString "blank")) (.str (Str.ofString "copy")) = some (.bl false) := by rw [opEq_w Kw.ok4 Kw.ok3]; rfl
@[simp] theorem q_blank_blank : opEq (.str (Str.ofString "blank")) (.str (Str.ofString "blank")) = some (.bl true) := by rw [opEq_w Kw.ok4 Kw.ok4]; rfl
@[simp] theorem q_blank_tell : opEq (.str (Str.ofString "blank")) (.str (Str.ofString "tell")) = some (.bl false) := by rw [opEq_w Kw.ok4 Kw.ok5]; rfl
@[simp] theorem q_tell_read : opEq (.str (Str.ofString "tell")) (.str (Str.ofString "read")) = some (.bl false) := by rw [opEq_w Kw.ok5 Kw.ok1]; rfl
@[simp] theorem q_tell_write : opEq (.str (Str.ofString "tell")) (.str (Str.ofString "write")) = some (.bl false) := by rw [opEq_w Kw.ok5 Kw.ok2]; rfl
@[simp] theorem q_tell_copy : opEq (.str (Str.ofString "tell")) (.str (Str.ofString "copy")) = some (.bl false) := by rw [opEq_w Kw.ok5 Kw.ok3]; rfl
@[simp] theorem q_tell_blank : opEq (.str (Str.ofString "tell")) (.str (Str.ofString "blank")) = some (.bl false) := by rw [opEq_w Kw.ok5 Kw.ok4]; rfl
@[simp] theorem q_tell_tell : opEq (.str (Str.ofString "tell")) (.str (Str.ofString "tell")) = some (.bl true) := by rw [opEq_w Kw.ok5 Kw.ok5]; rfl
theorem atI_5 {α : Type} {x y z u v t : α} {l : List α} : atI (x :: y :: z :: u :: v :: t :: l) 5 = some t := by
  have : (5 : Int) < ((l.length + 1 + 1 + 1 + 1 + 1 + 1 : Nat) : Int) := by omega
  simp only [atI, ixN, List.length_cons, if_pos this]; rfl
/-! ### what a step reads and writes -/
def stP (q : Str × Int × Int) : P := .tup [.str q.1, .int q.2.1, .int q.2.2]
def Stp.rd : Stp → Option (Str × Int × Int)
  | .read _ k n o => some (n, o, szS k)
  | .copy m _ _ n' o' => some (n', o', m)
  | _ => none
def Stp.wr : Stp → Option (Str × Int × Int)
  | .write k n o _ => some (n, o, szS k)
  | .copy m n o _ _ => some (n, o, m)
  | .blank m n o => some (n, o, m)
  | _ => none
def Stp.sts (s : Stp) : List (Str × Int × Int) := s.rd.toList ++ s.wr.toList
def opP (o : Option (Str × Int × Int)) : P := match o with
  | some q => stP q
  | none => .non
def Stp.kok : Stp → Prop
  | .read _ k _ _ => isKindS k = true
  | .write k _ _ _ => isKindS k = true
  | _ => True
theorem Stp.ok.kok {names vals : List Str} {s : Stp} (h : s.ok names vals) : s.kok := by
  cases s with
  | read _ _ _ _ => exact h.2.2.2.1
  | write _ _ _ _ => exact h.1
  | copy _ _ _ _ _ => trivial
  | blank _ _ _ => trivial
  | tell _ => trivial
def madeP : Stp → P
  | .read x _ _ _ => .str x
  | _ => .non
def usedP : Stp → P
  | .tell x => .str x
  | .write _ _ _ (.str x) => .str x
  | _ => .non
end Z
namespace Kw
open PySem PySem.Spec PyProof.Rows L2 Z
section
variable {S : Store} {s : Stp}
theorem size_of_eq {k : Str} (h : isKindS k = true) : f_size_of [.p (.str k)] S = .ok (.p (.int (szS k))) S := by
  apply Rs.sx.eq
  unfold f_size_of b_size_of
  rw [w_runB]
  simp [kind_ix h, kind_int h, opNeg]
theorem reads_eq (h : s.kok) : f_reads_at [.p s.p] S = .ok (.p (opP s.rd)) S := by
  apply Rs.sx.eq
  unfold f_reads_at b_reads_at
  rw [w_runB]
  cases s with
  | read x k n o => simp [Stp.p, ixP, atI_3, atI_4, size_of_eq (show isKindS k = true from h), Stp.rd, opP, stP, sl_le]
  | write k n o v => simp [Stp.p, ixP, Stp.rd, opP]
  | copy m n o n' o' => simp [Stp.p, ixP, atI_3, atI_4, atI_5, Stp.rd, opP, stP]
  | blank m n o => simp [Stp.p, ixP, Stp.rd, opP]
  | tell x => simp [Stp.p, ixP, Stp.rd, opP]
theorem writes_eq (h : s.kok) : f_writes_at [.p s.p] S = .ok (.p (opP s.wr)) S := by
  apply Rs.sx.eq
  unfold f_writes_at b_writes_at
  rw [w_runB]
  cases s with
  | read x k n o => simp [Stp.p, ixP, Stp.wr, opP]
  | write k n o v => simp [Stp.p, ixP, atI_3, atI_4, size_of_eq (show isKindS k = true from h), Stp.wr, opP, stP]
  | copy m n o n' o' => simp [Stp.p, ixP, atI_3, atI_4, atI_5, Stp.wr, opP, stP]
  | blank m n o => simp [Stp.p, ixP, atI_3, Stp.wr, opP, stP]
  | tell x => simp [Stp.p, ixP, Stp.wr, opP]
theorem made_eq : f_value_made [.p s.p] S = .ok (.p (madeP s)) S := by
  apply Rs.sx.eq
  unfold f_value_made b_value_made
  rw [w_runB]
  cases s <;> simp [Stp.p, ixP, madeP]
theorem used_eq {names vals : List Str} (h : s.ok names vals) : f_value_used [.p s.p] S = .ok (.p (usedP s)) S := by
  apply Rs.sx.eq
  unfold f_value_used b_value_used
  rw [w_runB]
  cases s with
  | read x k n o => simp [Stp.p, ixP, usedP]
  | write k n o v =>
    obtain ⟨_, _, _, _, h5⟩ := h
    rcases h5 with ⟨i, rfl, _⟩ | ⟨x, _, rfl⟩
    · simp [Stp.p, ixP, atI_4, usedP]
    · simp [Stp.p, ixP, atI_4, usedP]
  | copy m n o n' o' => simp [Stp.p, ixP, usedP]
  | blank m n o => simp [Stp.p, ixP, usedP]
  | tell x => simp [Stp.p, ixP, usedP]
end
end Kw

namespace Z
open PySem PySem.Spec PyProof.Rows L2
def fitP : P → P
  | .tup [_, .int a, .int b] => .bl (decide (a + b ≤ 8))
  | _ => .non
def nameP : P → P
  | .tup [a, _, _] => a
  | _ => .non
theorem sts_len (s : Stp) : s.sts.length ≤ 2 := by unfold Stp.sts; cases s.rd <;> cases s.wr <;> simp
theorem isNon_opP {o : Option (Str × Int × Int)} : isNon (opP o) = o.isNone := by cases o <;> rfl
theorem sts_filter (s : Stp) : ([opP s.rd, opP s.wr].filter fun p => !isNon p) = s.sts.map stP := by
  unfold Stp.sts
  cases s.rd <;> cases s.wr <;> simp [opP, isNon, stP]
theorem isStep_ok {names vals : List Str} {s : Stp} (h : s.ok names vals) (hn : ∀ z ∈ names, isNameS z = true) (hv : ∀ z ∈ vals, isNameS z = true) : isStepP s.p = true := by
  have offk : ∀ {o : Int} {k : Str}, isKindS k = true → 0 ≤ o → o + szS k ≤ 8 → isOffP (.int o) = true := fun hk h0 h1 => by
    have := kind_sz hk
    simp [isOffP]; omega
  cases s with
  | read x k n o =>
    obtain ⟨h1, h2, h3, h4, h5, h6, h7⟩ := h
    simp [Stp.p, isStepP, isStepW, isNameP, isKindP, h1, h4, hn n h5, offk h4 h6 h7]
  | write k n o v =>
    obtain ⟨h1, h2, h3, h4, h5⟩ := h
    have hval : isValP v = true := by
      rcases h5 with ⟨i, rfl, hi⟩ | ⟨x, hx, rfl⟩
      · simpa [isValP, isNumP, isNameP] using hi
      · simp [isValP, isNumP, isNameP, hv x hx]
    have e : ¬ (Str.ofString "write" = Str.ofString "read") := by decide +kernel
    simp [Stp.p, isStepP, isStepW, isNameP, isKindP, h1, hn n h2, offk h1 h3 h4, hval, e]
  | copy m n o n' o' =>
    obtain ⟨h1, h2, h3, h4, h5, h6, h7⟩ := h
    have e : ¬ (Str.ofString "copy" = Str.ofString "read") := by decide +kernel
    have e2 : ¬ (Str.ofString "copy" = Str.ofString "write") := by decide +kernel
    have hm : isManyP (.int m) = true := by simp [isManyP]; omega
    have ho : isOffP (.int o) = true := by simp [isOffP]; omega
    have ho' : isOffP (.int o') = true := by simp [isOffP]; omega
    simp [Stp.p, isStepP, isStepW, isNameP, e, e2, hn n h2, hn n' h5, hm, ho, ho']
  | blank m n o =>
    obtain ⟨h1, h2, h3, h4⟩ := h
    have e : ¬ (Str.ofString "blank" = Str.ofString "read") := by decide +kernel
    have e2 : ¬ (Str.ofString "blank" = Str.ofString "write") := by decide +kernel
    have e3 : ¬ (Str.ofString "blank" = Str.ofString "copy") := by decide +kernel
    have hm : isManyP (.int m) = true := by simp [isManyP]; omega
    have ho : isOffP (.int o) = true := by simp [isOffP]; omega
    simp [Stp.p, isStepP, isStepW, isNameP, e, e2, e3, hn n h2, hm, ho]
  | tell x =>
    have e : ¬ (Str.ofString "tell" = Str.ofString "read") := by decide +kernel
    have e2 : ¬ (Str.ofString "tell" = Str.ofString "write") := by decide +kernel
    have e3 : ¬ (Str.ofString "tell" = Str.ofString "copy") := by decide +kernel
    have e4 : ¬ (Str.ofString "tell" = Str.ofString "blank") := by decide +kernel
    simp [Stp.p, isStepP, isStepW, isNameP, e, e2, e3, e4, hv x h]
theorem sts_ok {names vals : List Str} {s : Stp} (h : s.ok names vals) : ∀ q ∈ s.sts, q.1 ∈ names ∧ q.2.1 + q.2.2 ≤ 8 := by
  intro q hq
  unfold Stp.sts at hq
  cases s with
  | read x k n o =>
    obtain ⟨h1, h2, h3, h4, h5, h6, h7⟩ := h
    simp [Stp.rd, Stp.wr] at hq; subst hq; exact ⟨h5, h7⟩
  | write k n o v =>
    obtain ⟨h1, h2, h3, h4, h5⟩ := h
    simp [Stp.rd, Stp.wr] at hq; subst hq; exact ⟨h2, h4⟩
  | copy m n o n' o' =>
    obtain ⟨h1, h2, h3, h4, h5, h6, h7⟩ := h
    simp [Stp.rd, Stp.wr] at hq
    rcases hq with rfl | rfl
    · exact ⟨h5, h7⟩
    · exact ⟨h2, h4⟩
  | blank m n o =>
    obtain ⟨h1, h2, h3, h4⟩ := h
    simp [Stp.rd, Stp.wr] at hq; subst hq; exact ⟨h2, h4⟩
  | tell x => simp [Stp.rd, Stp.wr] at hq
theorem step_sm {names vals : List Str} {s : Stp} (h : s.ok names vals) (hn : ∀ z ∈ names, isNameS z = true) (hv : ∀ z ∈ vals, isNameS z = true) : sm 1 s.p = true := by
  obtain ⟨w, ps, e, h1, h2, _⟩ := okStep_names h hn hv
  rw [e]
  exact sq_sm 1 _ (sq_tup h1 (by simp; omega))
end Z
namespace Kw
open PySem PySem.Spec PyProof.Rows L2 Z
section
variable {S : Store} {s : Stp}
theorem stretches_eq (h : s.kok) : f_stretches [.p s.p] S = .ok (.p (.lst (s.sts.map stP))) S := by
  apply Rs.sx.eq
  unfold f_stretches b_stretches
  rw [w_runB]
  simp [reads_eq h, writes_eq h]
  rw [lc_filter (eff := effN 1) (t := tB opNotN (eV 1) (eK .non)) (me := eV 1) (own := [1]) (fun p => !isNon p) id [opP s.rd, opP s.wr] [] (fun q _ => ⟨_, rfl, tok (by simp [wipeS, List.replicate, opNotN]), fun _ => Rs.sx.eq (by simp [wipeS, List.replicate])⟩) (sl_le (by simp))]
  rw [sx_ok, List.map_id, sts_filter]
  simp
theorem fits_eq (h : s.kok) : f_fits_window [.p s.p] S = .ok (.p (.bl (s.sts.all fun q => decide (q.2.1 + q.2.2 ≤ 8)))) S := by
  apply Rs.sx.eq
  unfold f_fits_window b_fits_window
  rw [w_runB]
  simp [stretches_eq h]
  have hl := sts_len s
  rw [lc_map (eff := effT 3 (effsC (effN 1) (effsC (effN 2) (effsC (effN 3) (effsN))))) fitP (s.sts.map stP) [] (fun q hq => by
    obtain ⟨x, hx, rfl⟩ := List.mem_map.mp hq
    exact ⟨_, rfl, Rs.sx.eq (by simp [wipeS, List.replicate, stP, fitP])⟩) (sl_le (by simp; omega))]
  rw [sx_ok]
  have e : ([] ++ (s.sts.map stP).map fitP : List Z.P) = s.sts.map fun q => .bl (decide (q.2.1 + q.2.2 ≤ 8)) := by
    rw [List.nil_append, List.map_map]
    exact List.map_congr_left fun q _ => rfl
  rw [e]
  simp [allP, boolsOf_map]
theorem used_names (h : s.kok) : f_names_used [.p s.p] S = .ok (.p (.lst ((s.sts.map (·.1)).map .str))) S := by
  apply Rs.sx.eq
  unfold f_names_used b_names_used
  rw [w_runB]
  simp [stretches_eq h]
  have hl := sts_len s
  rw [lc_map (eff := effT 3 (effsC (effN 1) (effsC (effN 2) (effsC (effN 3) (effsN))))) nameP (s.sts.map stP) [] (fun q hq => by
    obtain ⟨x, hx, rfl⟩ := List.mem_map.mp hq
    exact ⟨_, rfl, Rs.sx.eq (by simp [wipeS, List.replicate, stP, nameP])⟩) (sl_le (by simp; omega))]
  rw [sx_ok]
  have e : ([] ++ (s.sts.map stP).map nameP : List Z.P) = s.sts.map fun q => .str q.1 := by
    rw [List.nil_append, List.map_map]
    exact List.map_congr_left fun q _ => rfl
  rw [e]
  simp
end
end Kw

namespace Z
open PySem PySem.Spec PyProof.Rows L2
@[simp] theorem isNon_str {z : Str} : Z.isNon (.str z) = false := rfl
@[simp] theorem isNon_int {i : Int} : Z.isNon (.int i) = false := rfl
@[simp] theorem isNon_tup {ps : List P} : Z.isNon (.tup ps) = false := rfl
@[simp] theorem isNon_lst {ps : List P} : Z.isNon (.lst ps) = false := rfl
@[simp] theorem isNon_bl {b : Bool} : Z.isNon (.bl b) = false := rfl
@[simp] theorem isNon_non : Z.isNon .non = true := rfl
/-! ### comprehensions over what is encoded -/
theorem lc_mapT {α : Type} {eff : Eff} {me : M} {own : List Nat} {sl : Slots} {S : Store} (enc g : α → P) (xs : List α) (acc : List P) (h : ∀ x ∈ xs, ∃ sl1, eff (enc x) (wipeS sl own) = some sl1 ∧ me sl1 S = .ok (.p (g x)) S) (hl : acc.length + xs.length ≤ sizeLine) : lcL eff tYes me own sl (xs.map enc) acc S = .ok (acc ++ xs.map g) S := by
  induction xs generalizing acc with
  | nil => simp [lcL]
  | cons x xs ih =>
    obtain ⟨sl1, e1, e2⟩ := h x (List.mem_cons_self ..)
    simp only [List.length_cons] at hl
    simp only [List.map_cons, lcL, e1, tYes, e2, if_pos (show acc.length < sizeLine by omega)]
    rw [ih (acc ++ [g x]) (fun y hy => h y (List.mem_cons_of_mem _ hy)) (by simp; omega)]
    simp
theorem lc_filterT {α : Type} {eff : Eff} {t : MT} {me : M} {own : List Nat} {sl : Slots} {S : Store} (enc g : α → P) (c : α → Bool) (xs : List α) (acc : List P) (h : ∀ x ∈ xs, ∃ sl1, eff (enc x) (wipeS sl own) = some sl1 ∧ t sl1 S = .ok (c x) S ∧ (c x = true → me sl1 S = .ok (.p (g x)) S)) (hl : acc.length + xs.length ≤ sizeLine) : lcL eff t me own sl (xs.map enc) acc S = .ok (acc ++ (xs.filter c).map g) S := by
  induction xs generalizing acc with
  | nil => simp [lcL]
  | cons x xs ih =>
    obtain ⟨sl1, e1, e2, e3⟩ := h x (List.mem_cons_self ..)
    simp only [List.length_cons] at hl
    simp only [List.map_cons, lcL, e1, e2]
    cases hc : c x with
    | true =>
      simp only [e3 hc, if_pos (show acc.length < sizeLine by omega)]
      rw [ih (acc ++ [g x]) (fun y hy => h y (List.mem_cons_of_mem _ hy)) (by simp; omega)]
      simp [hc]
    | false =>
      simp only []
      rw [ih acc (fun y hy => h y (List.mem_cons_of_mem _ hy)) (by omega)]
      simp [hc]
theorem anyF_map {α : Type} (xs : List α) (f : α → Bool) (h : ∀ x ∈ xs, f x = false) : xs.any f = false := by
  rw [List.any_eq_false]; intro x hx; rw [h x hx]; decide
theorem vals_name {names : List Str} {s : Stp} {vals : List Str} (h : s.ok names vals) (hv : ∀ z ∈ vals, isNameS z = true) : ∀ z ∈ vals ++ s.made, isNameS z = true := by
  intro z hz
  rcases List.mem_append.mp hz with hz | hz
  · exact hv z hz
  · exact made_name h z hz
end Z
namespace Kw
open PySem PySem.Spec PyProof.Rows L2 Z
section
variable {S : Store} {n : Nat} {p : Z.P}
theorem check_pointers_eq {kn ps : List Str} (hS : clSt S) (hk2 : kn.length ≤ 2) (hl : ps.length ≤ 3) (hl4 : kn.length + ps.length ≤ 4) (hn : ∀ q ∈ kn ++ ps, isNameS q = true) (hd : (kn ++ ps).Nodup) : f_check_pointers [.p (.tup (ps.map .str)), .p (.lst (kn.map .str))] S = .ok (.p (.lst ((kn ++ ps).map .str))) S := by
  apply Rs.sx.eq
  unfold f_check_pointers b_check_pointers
  refine runZ_at hS fun F N T _ _ hT => ?_
  refine step_if (b := false) (S' := S) (tok ?_) (fun h => nomatch h) fun _ => ?_
  · simp [List.replicate]
    split <;> omega
  refine set_by (fun d S1 => d = .ref S.length ∧ S1 = S ++ [strsC kn]) (fun R hR => ?_) ?_
  · simp [List.replicate, listP, seqOf]
    exact hR _ _ ⟨rfl, by simp [strsC]⟩
  rintro _ _ ⟨rfl, rfl⟩
  refine seq_by (fun sl S1 => S1 = S ++ [strsC (kn ++ ps)] ∧ ∃ x y, sl = [some (.p (.tup (ps.map .str))), some (.p (.lst (kn.map .str))), some (.ref S.length), x, y]) (fun R hR => ?_) ?_
  · simp [List.replicate]
    refine loop_iR (fun i sl S1 => S1 = S ++ [strsC (kn ++ ps.take i)] ∧ ∃ x y, sl = [some (.p (.tup (ps.map .str))), some (.p (.lst (kn.map .str))), some (.ref S.length), x, y]) ?_ ?_ ⟨by simp, none, none, rfl⟩
    · rintro i q sl S1 hq ⟨rfl, x, y, rfl⟩
      obtain ⟨p, hp', rfl⟩ := enum_get hq
      obtain ⟨z, hz, rfl⟩ : ∃ z, ps[i]? = some z ∧ p = .str z := by
        rw [List.getElem?_map] at hp'
        cases hz : ps[i]? with
        | none => rw [hz] at hp'; cases hp'
        | some z => rw [hz] at hp'; cases hp'; exact ⟨z, rfl, rfl⟩
      obtain ⟨hi, hze⟩ := List.getElem?_eq_some_iff.mp hz
      have hzm : z ∈ ps := List.mem_of_getElem? hz
      have hn1 := hn z (List.mem_append_right _ hzm)
      have hall : ∀ y ∈ kn ++ ps.take i, isNameS y = true := fun y hy => by
        rcases List.mem_append.mp hy with hy | hy
        · exact hn y (List.mem_append_left _ hy)
        · exact hn y (List.mem_append_right _ (List.mem_of_mem_take hy))
      have hnot : z ∉ kn ++ ps.take i := by
        intro hc
        obtain ⟨h1, h2, h3⟩ := List.nodup_append.mp hd
        rcases List.mem_append.mp hc with hc | hc
        · exact h3 z hc z hzm rfl
        · obtain ⟨j, hj, e⟩ := List.mem_iff_getElem.mp hc
          simp at hj e
          have := nodup_get h2 (j := j) (k := i) (z := z) (by rw [List.getElem?_eq_getElem (by omega)]; simp [e]) hz
          omega
      refine ⟨_, rfl, fun R' hR' => ?_⟩
      refine step_if (b := false) (S' := S ++ [strsC (kn ++ ps.take i)]) (tok ?_) (fun h => nomatch h) fun _ => ?_
      · simp [name_call hn1]
        rw [in_rl get_last hall hn1]
        simp
        simpa using hnot
      refine app_by (fun d S1 => d = .p (.str z) ∧ S1 = S ++ [strsC (kn ++ ps.take i)]) rfl get_last (fun R hR => ?_) ?_
      · simp
        exact hR _ _ ⟨rfl, by simp⟩
      rintro _ _ ⟨rfl, rfl⟩
      refine ⟨_, get_last, by simp; omega, ?_⟩
      rw [strsC_snoc, set_last, w_nil]
      refine hR' _ _ ⟨?_, _, _, rfl⟩
      rw [List.take_succ, hz, List.append_assoc]
      rfl
    · rintro sl S1 ⟨rfl, x, y, rfl⟩
      refine hR _ _ ⟨?_, x, y, rfl⟩
      rw [enum_len, List.length_map, List.take_of_length_le (by simp)]
  rintro _ _ ⟨rfl, x, y, rfl⟩
  simp
  exact hT _ _ _ (fz_strs (L := [])) ⟨by simp, rfl⟩
theorem step_fits_eq {s : Stp} {names vals : List Str} {v : Nat} (h : s.ok names vals) (hn : ∀ z ∈ names, isNameS z = true) (hv : ∀ z ∈ vals, isNameS z = true) (hl : S[v]? = some (strsC vals)) : f_step_fits [.p s.p, .p (.lst (names.map .str)), .ref v] S = .ok (.p (.bl true)) S := by
  apply Rs.sx.eq
  unfold f_step_fits b_step_fits
  rw [w_runB]
  have hsm := step_sm h hn hv
  have hso := sts_ok h
  have hfit : (s.sts.all fun q => decide (q.2.1 + q.2.2 ≤ 8)) = true := List.all_eq_true.mpr fun q hq => decide_eq_true (hso q hq).2
  refine step_if (b := false) (S' := S) (tok ?_) (fun h => nomatch h) fun _ => ?_
  · simp [is_step_eq hsm, isStep_ok h hn hv, fits_eq h.kok, hfit]
  refine step_if (b := false) (S' := S) (tok ?_) (fun h => nomatch h) fun _ => ?_
  · simp [used_names h.kok]
    have hl := sts_len s
    rw [lc_mapT (eff := effN 5) (P.str ∘ fun x => x.fst) (fun q => .bl (!decide (q.1 ∈ names))) s.sts [] (fun y hy => by
      refine ⟨_, rfl, Rs.sx.eq ?_⟩
      simp [wipeS, List.replicate]
      rw [in_pl hn (hn _ (hso y hy).1)]
      simp) (sl_le (by simp; omega))]
    rw [sx_ok, List.nil_append]
    simp only [anyP_map, opt_some]
    simp
    intro a b c hm
    exact (hso _ hm).1
  refine seq_by (fun sl S1 => S = S1 ∧ sl = [some (.p s.p), some (.p (.lst (names.map .str))), some (.ref v), some (.p (madeP s)), some (.p (usedP s)), none]) (fun R hR => ?_) ?_
  · simp [made_eq, used_eq h, List.replicate]
    exact hR _ _ ⟨rfl, rfl⟩
  rintro _ _ ⟨rfl, rfl⟩
  refine step_if (b := false) (S' := S) (tok ?_) (fun h => nomatch h) fun _ => ?_
  · cases s with
    | read x k n o =>
      obtain ⟨h1, h2, h3, _⟩ := h
      simp [madeP, opNotN]
      rw [in_pl hn h1]
      simp [h2]
      rw [in_rl hl hv h1]
      simp [h3]
    | _ => simp [madeP, opNotN]
  cases s with
  | tell x =>
    simp [usedP, opIsN]
    rw [in_rl hl hv (hv x h)]
    simp
    exact h
  | write k n o w =>
    obtain ⟨_, _, _, _, h5⟩ := h
    rcases h5 with ⟨i, rfl, _⟩ | ⟨x, hx, rfl⟩
    · simp [usedP, opIsN]
    · simp [usedP, opIsN]
      rw [in_rl hl hv (hv x hx)]
      simp [hx]
  | _ => simp [usedP, opIsN]
theorem check_steps_eq {names : List Str} {ss : List Stp} (hS : clSt S) (hl : ss.length ≤ 12) (hn : ∀ z ∈ names, isNameS z = true) (h : okSteps names [] ss) : f_check_steps [.p (.tup (ss.map Stp.p)), .p (.lst (names.map .str))] S = .ok (.p .non) S := by
  apply Rs.sx.eq
  unfold f_check_steps b_check_steps
  refine runZ_at hS fun F N T _ hN _ => ?_
  refine step_if (b := false) (S' := S) (tok ?_) (fun h => nomatch h) fun _ => ?_
  · simp [List.replicate]; omega
  refine set_by (fun d S1 => d = .ref S.length ∧ S1 = S ++ [strsC []]) (fun R hR => ?_) ?_
  · simp; exact hR _ _ ⟨rfl, by simp [strsC]⟩
  rintro _ _ ⟨rfl, rfl⟩
  simp [List.replicate]
  refine loop_iR (fun i sl S1 => ∃ vals, S1 = S ++ [strsC vals] ∧ vals.length ≤ i ∧ (∀ z ∈ vals, isNameS z = true) ∧ okSteps names vals (ss.drop i) ∧ ∃ x y, sl = [some (.p (.tup (ss.map Stp.p))), some (.p (.lst (names.map .str))), some (.ref S.length), x, y]) ?_ ?_ ⟨[], by simp, by simp, by simp, by simpa using h, none, none, rfl⟩
  · rintro i q sl S1 hq ⟨vals, rfl, hvl, hv, hok, x, y, rfl⟩
    obtain ⟨p, hp', rfl⟩ := enum_get hq
    obtain ⟨s, hs, rfl⟩ : ∃ s, ss[i]? = some s ∧ p = s.p := by
      rw [List.getElem?_map] at hp'
      cases hz : ss[i]? with
      | none => rw [hz] at hp'; cases hp'
      | some z => rw [hz] at hp'; cases hp'; exact ⟨z, rfl, rfl⟩
    obtain ⟨hi, hse⟩ := List.getElem?_eq_some_iff.mp hs
    have hdr : ss.drop i = s :: ss.drop (i + 1) := by rw [List.drop_eq_getElem_cons hi, hse]
    rw [hdr] at hok
    obtain ⟨hok1, hok2⟩ := hok
    refine ⟨_, rfl, fun R' hR' => ?_⟩
    refine step_if (b := false) (S' := S ++ [strsC vals]) (tok ?_) (fun h => nomatch h) fun _ => ?_
    · simp [step_fits_eq hok1 hn hv get_last]
    cases s with
    | read x k n o =>
      refine step_if (b := true) (S' := S ++ [strsC vals]) (tok ?_) (fun _ => ?_) (fun h => nomatch h)
      · simp [made_eq, madeP, opNotN]
      refine app_by (fun d S1 => d = .p (.str x) ∧ S1 = S ++ [strsC vals]) rfl get_last (fun R hR => ?_) ?_
      · simp [made_eq, madeP]
        exact hR _ _ ⟨rfl, by simp⟩
      rintro _ _ ⟨rfl, rfl⟩
      refine ⟨_, get_last, by simp; omega, ?_⟩
      rw [strsC_snoc, set_last, w_nil, w_nil]
      exact hR' _ _ ⟨vals ++ [x], rfl, by simp; omega, vals_name hok1 hv, hok2, _, _, rfl⟩
    | _ =>
      refine step_if (b := false) (S' := S ++ [strsC vals]) (tok ?_) (fun h => nomatch h) fun _ => ?_
      · simp [made_eq, madeP, opNotN]
      rw [w_nil]
      exact hR' _ _ ⟨vals, rfl, by omega, hv, by simpa [Stp.made] using hok2, _, _, rfl⟩
  · rintro sl S1 ⟨vals, rfl, _, _, _, x, y, rfl⟩
    exact hN _ _ ⟨rfl, rfl⟩
theorem nq_pp : ¬ (Str.ofString "places" = Str.ofString "pointers") := by decide +kernel
theorem nq_ps : ¬ (Str.ofString "places" = Str.ofString "steps") := by decide +kernel
theorem nq_qs : ¬ (Str.ofString "pointers" = Str.ofString "steps") := by decide +kernel
def FT : List Str := ["places", "pointers", "steps"]
theorem Text_init_eq {t : Txt} {v : Nat} (hS : clSt S) (h : t.ok) (hv : S[v]? = some (.ins "Text" [] [])) : f_Text_init [.ref v, .p t.pl, .p t.pt, .p t.st] S = .ok (.p .non) (S.set v (.ins "Text" FT [.p t.pl, .p t.pt, .p t.st])) := by
  have key : (f_Text_init [.ref v, .p t.pl, .p t.pt, .p t.st] S).sx noE fun a S' => a = .p .non ∧ S' = S.set v (.ins "Text" FT [.p t.pl, .p t.pt, .p t.st]) := by
    unfold f_Text_init b_Text_init
    rw [w_runB]
    have h1 := check_places_eq (S := S) (ps := t.places) hS h.pl (fun q hq => ⟨h.nm q.1 (List.mem_append_left _ (List.mem_map_of_mem hq)), h.kd q hq⟩) ((List.nodup_append.mp h.nd).1)
    have hnl : t.places.length + t.ptrs.length ≤ 4 := by have := h.nl; simpa [Txt.names] using this
    have h2 := check_pointers_eq (S := S) (kn := t.places.map (fun x : Str × Str => x.1)) (ps := t.ptrs) hS (by simpa using h.pl) h.pt (by simpa using hnl) h.nm h.nd
    have h3 := check_steps_eq (S := S) (names := t.names) (ss := t.steps) hS h.sl h.nm h.st
    have hlt := (List.getElem?_eq_some_iff.mp hv).1
    have e : ∀ c, (S.set v c)[v]? = some c := fun c => List.getElem?_set_self hlt
    have h1' : f_check_places [.p t.pl] S = _ := h1
    have h2' : f_check_pointers [.p t.pt, .p (.lst ((t.places.map (·.1)).map .str))] S = _ := h2
    have h3' : f_check_steps [.p t.st, .p (.lst ((t.places.map (·.1) ++ t.ptrs).map .str))] S = _ := h3
    simp [h1', List.replicate]
    rw [show (t.places.map fun x => x.1) = t.places.map (·.1) from rfl] at *
    simp only [List.map_map, List.map_append] at h1' h2' h3'
    simp [h2', h3', hv, e, putFk, putFv, nq_pp, nq_ps, nq_qs]
    rfl
  obtain ⟨a, S', e, rfl, rfl⟩ := key.ok
  exact e
end
end Kw

namespace Z
open PySem PySem.Spec PyProof.Rows L2
/-! ### numbers as texts -/
def numS (i : Int) : Str := Str.ofString (toString i)
theorem cs_num {i : Int} (h : 0 ≤ i) : cs (numS i) = TL.numL i.toNat := by
  obtain ⟨n, rfl⟩ := Int.eq_ofNat_of_zero_le h
  exact TL.tl_num n
theorem cs_neg {i : Int} (h : i < 0) : cs (numS i) = 45 :: TL.numL (-i).toNat := by
  obtain ⟨n, hn⟩ := Int.eq_ofNat_of_zero_le (show 0 ≤ -i by omega)
  have e : toString i = "-" ++ toString ((n : Nat) : Int) := by
    rw [toString_neg h, show (0 : Int) - i = ((n : Nat) : Int) by omega]
  have e2 : numS i = Str.ofString "-" ++ Str.ofString (toString ((n : Nat) : Int)) := by
    apply TL.ext_tl
    unfold numS
    rw [e, TL.tl_append, TL.tl_ofString, TL.tl_ofString, TL.tl_ofString, String.toList_append, List.map_append]
  have e3 : (-i).toNat = n := by omega
  rw [e2, cs_append, e3]
  show cs (Str.ofString "-") ++ TL.tl _ = _
  rw [TL.tl_num, show cs (Str.ofString "-") = [45] by decide +kernel]
  rfl
theorem num_signs {i : Int} : ∀ c ∈ cs (numS i), c = 45 ∨ (48 ≤ c ∧ c ≤ 57) := by
  intro c hc
  by_cases h : 0 ≤ i
  · rw [cs_num h] at hc; exact .inr (TL.numL_digits _ c hc)
  · rw [cs_neg (by omega)] at hc
    rcases List.mem_cons.mp hc with hc | hc
    · exact .inl hc
    · exact .inr (TL.numL_digits _ c hc)
theorem num_len {i : Int} (h : i.natAbs < 10 ^ 45) : (numS i).length ≤ 46 := by
  rw [← cs_len]
  by_cases h0 : 0 ≤ i
  · rw [cs_num h0]
    have := TL.numL_len (n := i.toNat) (k := 45) (by decide) (by omega)
    omega
  · rw [cs_neg (by omega)]
    have := TL.numL_len (n := (-i).toNat) (k := 45) (by decide) (by omega)
    simp; omega
theorem strQ_i {i : Int} (h : i.natAbs < 10 ^ 45) : strQ [.int i] = some (.str (numS i)) := by
  simp only [strQ, strP, if_pos (log_lt h)]; rfl
theorem fmt_i {i : Int} (h : i.natAbs < 10 ^ 45) : fmtP (.int i) = some (.str (numS i)) := by
  simp only [fmtP, if_pos (log_lt h)]; rfl
theorem fmt_s {z : Str} (h : z.length ≤ 1000) : fmtP (.str z) = some (.str z) := by
  simp only [fmtP, if_pos (sl_le h)]
/-! ### words and lines -/
def plus : Str := "+"
def spc : Str := " "
def lf : Str := "\n"
def spotS (n : Str) (o : Int) : Str := (n ++ plus) ++ numS o
def valS : P → Str
  | .int i => numS i
  | .str x => x
  | _ => Str.empty
def Stp.words : Stp → List Str
  | .read x k n o => ["read", x, k, spotS n o]
  | .write k n o v => ["write", k, spotS n o, valS v]
  | .copy m n o n' o' => ["copy", numS m, spotS n o, spotS n' o']
  | .blank m n o => ["blank", numS m, spotS n o]
  | .tell x => ["tell", x]
def Stp.line (s : Stp) : Str := PySem.Txt.join spc s.words
def plWd (q : Str × Str) : List Str := ["place", q.1, q.2]
def ptWd (z : Str) : List Str := ["pointer", z]
def plL (q : Str × Str) : Str := PySem.Txt.join spc (plWd q)
def ptL (z : Str) : Str := PySem.Txt.join spc (ptWd z)
def Txt.lines (t : Txt) : List Str := t.places.map plL ++ t.ptrs.map ptL ++ t.steps.map Stp.line
def Txt.note (t : Txt) : Str := PySem.Txt.join lf t.lines
/-- short words without separators -/
structure Wd (z : Str) : Prop where
  s : 32 ∉ cs z
  l : 10 ∉ cs z
  n : z.length ≤ 60
theorem signs_rng : ∀ c ∈ cs SIGNS, (48 ≤ c ∧ c ≤ 57) ∨ (97 ≤ c ∧ c ≤ 122) := by decide +kernel
theorem wd_name {z : Str} (h : isNameS z = true) : Wd z := by
  have := name_len h
  refine ⟨fun hc => ?_, fun hc => ?_, by omega⟩ <;> (have := signs_rng _ (name_signs h _ hc); omega)
theorem kind_signs {z : Str} (h : isKindS z = true) : ∀ c ∈ cs z, c ∈ cs SIGNS := fun c hc => by
  have hl := kind_len h
  unfold isKindS at h
  simp only [Bool.and_eq_true, decide_eq_true_eq] at h
  obtain ⟨⟨h1, h2⟩, h3, h4, h5⟩ := h
  have hlast : (cs z).getLast? = some (lastCp z) := by
    unfold lastCp
    cases hz : cs z with
    | nil => have := cs_len z; rw [hz] at this; simp at this; omega
    | cons a b => simp [List.getLast?_cons]
  rcases List.mem_iff_getElem.mp hc with ⟨i, hi, e⟩
  by_cases hi' : i = (cs z).length - 1
  · have : c = lastCp z := by
      rw [List.getLast?_eq_getElem?, ← hi', List.getElem?_eq_getElem hi, e] at hlast
      cases hlast; rfl
    subst this
    have := of_decide_eq_true h4
    rw [signs_split]; exact List.mem_append_right _ this
  · have : c ∈ cs (cutS z none (some (-1))) := by
      rw [cs_cut]
      unfold Z.cutD
      refine List.mem_iff_getElem.mpr ⟨i, ?_, ?_⟩
      · simp [HT.sIx]; omega
      · simp [HT.sIx]; exact e
    have := of_decide_eq_true (List.all_eq_true.mp h3 c this)
    rw [signs_split]; exact List.mem_append_left _ this
theorem wd_kind {z : Str} (h : isKindS z = true) : Wd z := by
  have := kind_len h
  refine ⟨fun hc => ?_, fun hc => ?_, by omega⟩ <;> (have := signs_rng _ (kind_signs h _ hc); omega)
theorem wd_num {i : Int} (h : i.natAbs < 10 ^ 45) : Wd (numS i) := by
  have := num_len h
  refine ⟨fun hc => ?_, fun hc => ?_, by omega⟩ <;> (have := num_signs _ hc; omega)
theorem cs_plus : cs plus = [43] := by decide +kernel
theorem plus_len : plus.length = 1 := by decide +kernel
theorem small_num {o : Int} (h0 : 0 ≤ o) (h : o ≤ 9) : (numS o).length = 1 := by
  rw [← cs_len, cs_num h0, TL.numL_lt (by omega)]; rfl
theorem wd_spot {n : Str} {o : Int} (h : isNameS n = true) (h0 : 0 ≤ o) (h1 : o ≤ 9) : Wd (spotS n o) := by
  have hn := wd_name h
  have ho := wd_num (i := o) (by omega)
  have := name_len h
  unfold spotS
  refine ⟨fun hc => ?_, fun hc => ?_, by rw [len_append, len_append, plus_len, small_num h0 h1]; omega⟩
  · rw [cs_append, cs_append, cs_plus] at hc
    simp only [List.mem_append, List.mem_singleton] at hc
    rcases hc with (hc | hc) | hc
    · exact hn.s hc
    · omega
    · exact ho.s hc
  · rw [cs_append, cs_append, cs_plus] at hc
    simp only [List.mem_append, List.mem_singleton] at hc
    rcases hc with (hc | hc) | hc
    · exact hn.l hc
    · omega
    · exact ho.l hc
theorem wd_lit {z : Str} (h : (!(cs z).contains 32 && (!(cs z).contains 10 && decide (z.length ≤ 60))) = true) : Wd z := by
  simp at h
  exact ⟨h.1, h.2.1, h.2.2⟩
theorem words_ok {names vals : List Str} {s : Stp} (h : s.ok names vals) (hn : ∀ z ∈ names, isNameS z = true) (hv : ∀ z ∈ vals, isNameS z = true) : ∀ w ∈ s.words, Wd w := by
  cases s with
  | read x k n o =>
    obtain ⟨h1, h2, h3, h4, h5, h6, h7⟩ := h
    have := kind_sz h4
    intro w hw
    simp only [Stp.words, List.mem_cons, List.not_mem_nil, or_false] at hw
    rcases hw with rfl | rfl | rfl | rfl
    · exact wd_lit (by decide +kernel)
    · exact wd_name h1
    · exact wd_kind h4
    · exact wd_spot (hn _ h5) h6 (by omega)
  | write k n o v =>
    obtain ⟨h4, h5, h6, h7, h8⟩ := h
    have := kind_sz h4
    intro w hw
    simp only [Stp.words, List.mem_cons, List.not_mem_nil, or_false] at hw
    rcases hw with rfl | rfl | rfl | rfl
    · exact wd_lit (by decide +kernel)
    · exact wd_kind h4
    · exact wd_spot (hn _ h5) h6 (by omega)
    · rcases h8 with ⟨i, rfl, hi⟩ | ⟨x, hx, rfl⟩
      · exact wd_num (by unfold absI at hi; split at hi <;> omega)
      · exact wd_name (hv _ hx)
  | copy m n o n' o' =>
    obtain ⟨h1, h2, h3, h4, h5, h6, h7⟩ := h
    intro w hw
    simp only [Stp.words, List.mem_cons, List.not_mem_nil, or_false] at hw
    rcases hw with rfl | rfl | rfl | rfl
    · exact wd_lit (by decide +kernel)
    · exact wd_num (by omega)
    · exact wd_spot (hn _ h2) h3 (by omega)
    · exact wd_spot (hn _ h5) h6 (by omega)
  | blank m n o =>
    obtain ⟨h1, h2, h3, h4⟩ := h
    intro w hw
    simp only [Stp.words, List.mem_cons, List.not_mem_nil, or_false] at hw
    rcases hw with rfl | rfl | rfl
    · exact wd_lit (by decide +kernel)
    · exact wd_num (by omega)
    · exact wd_spot (hn _ h2) h3 (by omega)
  | tell x =>
    intro w hw
    simp only [Stp.words, List.mem_cons, List.not_mem_nil, or_false] at hw
    rcases hw with rfl | rfl
    · exact wd_lit (by decide +kernel)
    · exact wd_name (hv _ h)
theorem strsOf_map : ∀ ys : List Str, strsOf (ys.map P.str) = some ys
  | [] => rfl
  | y :: ys => by simp only [List.map_cons, strsOf, strsOf_map ys, Option.map_some]
theorem sum_le {ys : List Str} {b : Nat} (h : ∀ y ∈ ys, y.length ≤ b) : (ys.map (·.length)).sum ≤ ys.length * b := by
  induction ys with
  | nil => simp
  | cons y ys ih =>
    have h1 := h y (List.mem_cons_self ..)
    have h2 := ih fun z hz => h z (List.mem_cons_of_mem _ hz)
    simp only [List.map_cons, List.sum_cons, List.length_cons, Nat.succ_mul]
    omega
theorem join_P {y : Str} {ys : List Str} (hy : y.length ≤ 1) (h : ∀ z ∈ ys, z.length ≤ 500) (hl : ys.length ≤ 1000) : joinP y [.lst (ys.map .str)] = some (.str (PySem.Txt.join y ys)) := by
  have := sum_le h
  simp only [joinP, strsOf_map]
  rw [if_pos]
  have h2 : ys.length * 500 ≤ 1000 * 500 := Nat.mul_le_mul_right _ hl
  have h3 : ys.length * y.length ≤ 1000 * 1 := Nat.mul_le_mul hl hy
  omega
theorem len_join (y : Str) (hy : y.length ≤ 1) : ∀ ys : List Str, (PySem.Txt.join y ys).length ≤ (ys.map (·.length)).sum + ys.length := by
  intro ys
  rw [TL.join_eq, ← cs_len]
  show (TL.tl _).length ≤ _
  rw [TL.tl_join]
  have hy' : (TL.tl y).length ≤ 1 := by rw [← TL.len_tl]; exact hy
  induction ys with
  | nil => simp [TL.joinL]
  | cons z zs ih =>
    cases zs with
    | nil =>
      have e : (TL.tl z).length = z.length := (TL.len_tl z).symm
      simp only [List.map_cons, List.map_nil, TL.joinL, List.sum_cons, List.sum_nil, List.length_cons, List.length_nil]
      omega
    | cons u us =>
      simp only [List.map_cons, TL.joinL, List.length_append, List.sum_cons, List.length_cons] at ih ⊢
      have e : (TL.tl z).length = z.length := (TL.len_tl z).symm
      omega
theorem line_le {ws : List Str} (h : ∀ w ∈ ws, Wd w) (hl : ws.length ≤ 4) : (PySem.Txt.join spc ws).length ≤ 250 := by
  have h1 := len_join spc (by decide +kernel) ws
  have h2 := sum_le (b := 60) fun w hw => (h w hw).n
  omega
theorem words_len (s : Stp) : s.words.length ≤ 4 := by cases s <;> simp [Stp.words]
theorem txt_lines {t : Txt} (h : t.ok) : ∀ l ∈ t.lines, ∃ ws, l = PySem.Txt.join spc ws ∧ (∀ w ∈ ws, Wd w) ∧ ws.length ≤ 4 ∧ ws ≠ [] := by
  intro l hl
  unfold Txt.lines at hl
  simp only [List.mem_append, List.mem_map] at hl
  rcases hl with (⟨q, hq, rfl⟩ | ⟨z, hz, rfl⟩) | ⟨s, hs, rfl⟩
  · have h1 : isNameS q.1 = true := h.nm _ (List.mem_append_left _ (List.mem_map_of_mem hq))
    have h2 := h.kd q hq
    refine ⟨plWd q, rfl, fun w hw => ?_, by simp [plWd], by simp [plWd]⟩
    simp only [plWd, List.mem_cons, List.not_mem_nil, or_false] at hw
    rcases hw with rfl | rfl | rfl
    · exact wd_lit (by decide +kernel)
    · exact wd_name h1
    · exact wd_kind h2
  · have h1 : isNameS z = true := h.nm _ (List.mem_append_right _ hz)
    refine ⟨ptWd z, rfl, fun w hw => ?_, by simp [ptWd], by simp [ptWd]⟩
    simp only [ptWd, List.mem_cons, List.not_mem_nil, or_false] at hw
    rcases hw with rfl | rfl
    · exact wd_lit (by decide +kernel)
    · exact wd_name h1
  · obtain ⟨vs, h1, h2⟩ := okSteps_each h.st (by simp) s hs
    exact ⟨s.words, rfl, words_ok h1 h.nm h2, words_len s, by cases s <;> simp [Stp.words]⟩
theorem txt_line_le {t : Txt} (h : t.ok) : ∀ l ∈ t.lines, l.length ≤ 250 := fun l hl => by
  obtain ⟨ws, rfl, h1, h2, _⟩ := txt_lines h l hl
  exact line_le h1 h2
theorem txt_line_n {t : Txt} (h : t.ok) : t.lines.length ≤ 17 := by
  have h1 := h.pl
  have h2 := h.pt
  have h3 := h.sl
  simp [Txt.lines]; omega
end Z

namespace Z
open PySem PySem.Spec PyProof.Rows L2
/-- the sizes of the parts of a step -/
structure Stp.fine (s : Stp) : Prop where
  wd : ∀ w ∈ s.words, Wd w
  nb : match s with
    | .read x k n o => o.natAbs < 10 ^ 45 ∧ x.length ≤ 60 ∧ k.length ≤ 60 ∧ n.length ≤ 8
    | .write k n o v => o.natAbs < 10 ^ 45 ∧ k.length ≤ 60 ∧ n.length ≤ 8 ∧ ((∃ i, v = .int i ∧ i.natAbs < 10 ^ 45) ∨ ∃ x : Str, v = .str x ∧ x.length ≤ 60)
    | .copy m n o n' o' => m.natAbs < 10 ^ 45 ∧ o.natAbs < 10 ^ 45 ∧ o'.natAbs < 10 ^ 45 ∧ n.length ≤ 8 ∧ n'.length ≤ 8
    | .blank m n o => m.natAbs < 10 ^ 45 ∧ o.natAbs < 10 ^ 45 ∧ n.length ≤ 8
    | .tell x => x.length ≤ 60
theorem fine_of {names vals : List Str} {s : Stp} (h : s.ok names vals) (hn : ∀ z ∈ names, isNameS z = true) (hv : ∀ z ∈ vals, isNameS z = true) : s.fine := by
  refine ⟨words_ok h hn hv, ?_⟩
  cases s with
  | read x k n o =>
    obtain ⟨h1, h2, h3, h4, h5, h6, h7⟩ := h
    have := kind_sz h4
    have := name_len h1
    have := kind_len h4
    have := name_len (hn _ h5)
    exact ⟨by omega, by omega, by omega, by omega⟩
  | write k n o v =>
    obtain ⟨h4, h5, h6, h7, h8⟩ := h
    have := kind_sz h4
    have := kind_len h4
    have := name_len (hn _ h5)
    refine ⟨by omega, by omega, by omega, ?_⟩
    rcases h8 with ⟨i, rfl, hi⟩ | ⟨x, hx, rfl⟩
    · exact .inl ⟨i, rfl, by unfold absI at hi; split at hi <;> omega⟩
    · exact .inr ⟨x, rfl, by have := name_len (hv _ hx); omega⟩
  | copy m n o n' o' =>
    obtain ⟨h1, h2, h3, h4, h5, h6, h7⟩ := h
    have := name_len (hn _ h2)
    have := name_len (hn _ h5)
    exact ⟨by omega, by omega, by omega, by omega, by omega⟩
  | blank m n o =>
    obtain ⟨h1, h2, h3, h4⟩ := h
    have := name_len (hn _ h2)
    exact ⟨by omega, by omega, by omega⟩
  | tell x => have := name_len (hv _ h); show x.length ≤ 60; omega
theorem spot_add {n : Str} {o : Int} (ho : o.natAbs < 10 ^ 45) (hn : n.length ≤ 8) : n.length + plus.length ≤ sizeLine ∧ (n ++ plus).length + (numS o).length ≤ sizeLine := by
  have := num_len ho
  have := plus_len
  rw [len_append]
  constructor
  · exact sl_le (by omega)
  · exact sl_le (by omega)
theorem join_cs (y : Str) (ys : List Str) : cs (PySem.Txt.join y ys) = TL.joinL (cs y) (ys.map cs) := by
  rw [TL.join_eq]; exact TL.tl_join y ys
theorem ext_cs {x y : Str} (h : cs x = cs y) : x = y := TL.ext_tl h
@[simp] theorem cs_empty : cs Str.empty = [] := rfl
theorem litP : Str.ofString "+" = plus := rfl
theorem litSp : Str.ofString " " = spc := rfl
theorem litLf : Str.ofString "\n" = lf := rfl
end Z
namespace Kw
open PySem PySem.Spec PyProof.Rows L2 Z
section
variable {S : Store} {s : Stp}
theorem sj4 {ys : List Str} (hw : ∀ w ∈ ys, Wd w) (hl : ys.length ≤ 4) : joinP spc [.lst (ys.map .str)] = some (.str (PySem.Txt.join spc ys)) :=
  join_P (by decide +kernel) (fun z hz => Nat.le_trans (hw z hz).n (by omega)) (by omega)
theorem line_eq (h : s.fine) : f_line [.p s.p] S = .ok (.p (.str s.line)) S := by
  apply Rs.sx.eq
  unfold f_line b_line
  rw [w_runB]
  obtain ⟨hw, hb⟩ := h
  have hj := sj4 hw (words_len s)
  cases s with
  | read x k n o =>
    obtain ⟨h1, h2, h3, h4⟩ := hb
    obtain ⟨a1, a2⟩ := spot_add h1 h4
    simp only [Stp.words, List.map_cons, List.map_nil] at hj
    refine step_if (b := true) (S' := S) (tok (by simp [Stp.p, ixP])) (fun _ => ?_) (fun h => nomatch h)
    simp [Stp.p, ixP, atI_3, atI_4, litP, litSp, opAdd_s a1, strQ_i h1, opAdd_s a2]
    rw [show (n ++ plus) ++ numS o = spotS n o from rfl, hj]
    simp [Stp.line, Stp.words]
  | write k n o v =>
    obtain ⟨h1, h3, h4, h5⟩ := hb
    obtain ⟨a1, a2⟩ := spot_add h1 h4
    simp only [Stp.words, List.map_cons, List.map_nil] at hj
    have e5 : strQ [v] = some (.str (valS v)) := by
      rcases h5 with ⟨i, rfl, hi⟩ | ⟨x, rfl, hx⟩
      · exact strQ_i hi
      · rfl
    refine step_if (b := false) (S' := S) (tok (by simp [Stp.p, ixP])) (fun h => nomatch h) (fun _ => ?_)
    refine step_if (b := true) (S' := S) (tok (by simp [Stp.p, ixP])) (fun _ => ?_) (fun h => nomatch h)
    simp [Stp.p, ixP, atI_3, atI_4, litP, litSp, opAdd_s a1, strQ_i h1, opAdd_s a2, e5]
    rw [show (n ++ plus) ++ numS o = spotS n o from rfl, hj]
    simp [Stp.line, Stp.words]
  | tell x =>
    refine step_if (b := false) (S' := S) (tok (by simp [Stp.p, ixP])) (fun h => nomatch h) (fun _ => ?_)
    refine step_if (b := false) (S' := S) (tok (by simp [Stp.p, ixP])) (fun h => nomatch h) (fun _ => ?_)
    refine step_if (b := true) (S' := S) (tok (by simp [Stp.p, ixP])) (fun _ => ?_) (fun h => nomatch h)
    have hb : x.length ≤ 60 := hb
    have l5 : (Str.ofString "tell ").length = 5 := by decide +kernel
    simp [Stp.p, ixP]
    rw [opAdd_s (sl_le (by omega)), opt_some]
    refine congrArg P.str (ext_cs ?_)
    rw [cs_append]
    simp [Stp.line, Stp.words, join_cs, TL.joinL]
    rw [show cs (Str.ofString "tell ") = cs (Str.ofString "tell") ++ cs spc by decide +kernel]
    simp
  | blank m n o =>
    obtain ⟨h0, h1, h4⟩ := hb
    obtain ⟨a1, a2⟩ := spot_add h1 h4
    simp only [Stp.words, List.map_cons, List.map_nil] at hj
    refine step_if (b := false) (S' := S) (tok (by simp [Stp.p, ixP])) (fun h => nomatch h) (fun _ => ?_)
    refine step_if (b := false) (S' := S) (tok (by simp [Stp.p, ixP])) (fun h => nomatch h) (fun _ => ?_)
    refine step_if (b := false) (S' := S) (tok (by simp [Stp.p, ixP])) (fun h => nomatch h) (fun _ => ?_)
    refine set_by (fun d S1 => S = S1 ∧ d = .p (.str (spotS n o))) (fun R hR => ?_) ?_
    · simp [Stp.p, ixP, atI_3, atI_4, litP, opAdd_s a1, strQ_i h1, opAdd_s a2]
      exact hR _ _ ⟨rfl, rfl⟩
    rintro _ _ ⟨rfl, rfl⟩
    refine step_if (b := true) (S' := S) (tok (by simp [Stp.p, ixP])) (fun _ => ?_) (fun h => nomatch h)
    simp [Stp.p, ixP, litSp, strQ_i h0]
    rw [hj]
    simp [Stp.line, Stp.words]
  | copy m n o n' o' =>
    obtain ⟨h0, h1, h1', h4, h4'⟩ := hb
    obtain ⟨a1, a2⟩ := spot_add h1 h4
    obtain ⟨a1', a2'⟩ := spot_add h1' h4'
    simp only [Stp.words, List.map_cons, List.map_nil] at hj
    refine step_if (b := false) (S' := S) (tok (by simp [Stp.p, ixP])) (fun h => nomatch h) (fun _ => ?_)
    refine step_if (b := false) (S' := S) (tok (by simp [Stp.p, ixP])) (fun h => nomatch h) (fun _ => ?_)
    refine step_if (b := false) (S' := S) (tok (by simp [Stp.p, ixP])) (fun h => nomatch h) (fun _ => ?_)
    refine set_by (fun d S1 => S = S1 ∧ d = .p (.str (spotS n o))) (fun R hR => ?_) ?_
    · simp [Stp.p, ixP, atI_3, atI_4, litP, opAdd_s a1, strQ_i h1, opAdd_s a2]
      exact hR _ _ ⟨rfl, rfl⟩
    rintro _ _ ⟨rfl, rfl⟩
    refine step_if (b := false) (S' := S) (tok (by simp [Stp.p, ixP])) (fun h => nomatch h) (fun _ => ?_)
    simp [Stp.p, ixP, litSp, litP, atI_3, atI_4, atI_5, strQ_i h0, strQ_i h1', opAdd_s a1', opAdd_s a2']
    rw [show (n' ++ plus) ++ numS o' = spotS n' o' from rfl, hj]
    simp [Stp.line, Stp.words]
theorem spot_word_eq {n : Str} {o : Int} (h0 : o.natAbs < 10 ^ 45) (h : n.length ≤ 8) : f_spot_word [.p (.str n), .p (.int o)] S = .ok (.p (.str (spotS n o))) S := by
  apply Rs.sx.eq
  unfold f_spot_word b_spot_word
  rw [w_runB]
  have := num_len h0
  have := plus_len
  simp [fmt_s (z := n) (by omega), fmt_i h0, litP]
  refine ⟨sl_le ?_, sl_le ?_, sl_le ?_, ?_⟩
  · rw [len_append]; show 0 + _ ≤ _; omega
  · rw [len_append, len_append]; show 0 + _ + _ ≤ _; omega
  · rw [len_append, len_append, len_append]; show 0 + _ + _ + _ ≤ _; omega
  · congr 2
    apply ext_cs
    simp [cs_append, spotS]
end
end Kw

namespace Z
open PySem PySem.Spec PyProof.Rows L2
theorem wd60 {s : Stp} (h : s.fine) {w : Str} (hw : w ∈ s.words) : w.length ≤ 60 := (h.wd w hw).n
theorem len_empty : Str.empty.length = 0 := rfl
theorem lRead : (Str.ofString "read ").length = 5 := by decide +kernel
theorem lWrite : (Str.ofString "write ").length = 6 := by decide +kernel
theorem lCopy : (Str.ofString "copy ").length = 5 := by decide +kernel
theorem lBlank : (Str.ofString "blank ").length = 6 := by decide +kernel
theorem lTell : (Str.ofString "tell ").length = 5 := by decide +kernel
theorem lPlace : (Str.ofString "place ").length = 6 := by decide +kernel
theorem lPointer : (Str.ofString "pointer ").length = 8 := by decide +kernel
theorem lSpc : spc.length = 1 := by decide +kernel
theorem cRead : cs (Str.ofString "read ") = cs (Str.ofString "read") ++ cs spc := by decide +kernel
theorem cWrite : cs (Str.ofString "write ") = cs (Str.ofString "write") ++ cs spc := by decide +kernel
theorem cCopy : cs (Str.ofString "copy ") = cs (Str.ofString "copy") ++ cs spc := by decide +kernel
theorem cBlank : cs (Str.ofString "blank ") = cs (Str.ofString "blank") ++ cs spc := by decide +kernel
theorem cTell : cs (Str.ofString "tell ") = cs (Str.ofString "tell") ++ cs spc := by decide +kernel
theorem cPlace : cs (Str.ofString "place ") = cs (Str.ofString "place") ++ cs spc := by decide +kernel
theorem cPointer : cs (Str.ofString "pointer ") = cs (Str.ofString "pointer") ++ cs spc := by decide +kernel
theorem fmt_v {v : P} (h : (∃ i, v = .int i ∧ i.natAbs < 10 ^ 45) ∨ ∃ x : Str, v = .str x ∧ x.length ≤ 60) : fmtP v = some (.str (valS v)) := by
  rcases h with ⟨i, rfl, hi⟩ | ⟨x, rfl, hx⟩
  · exact fmt_i hi
  · exact fmt_s (by omega)
end Z
namespace Kw
open PySem PySem.Spec PyProof.Rows L2 Z
section
variable {S : Store} {s : Stp}
theorem step_line_eq (h : s.fine) : f_step_line [.p s.p] S = .ok (.p (.str s.line)) S := by
  apply Rs.sx.eq
  unfold f_step_line b_step_line
  rw [w_runB]
  have h60 := fun w (hw : w ∈ s.words) => wd60 h hw
  obtain ⟨hw, hb⟩ := h
  have e0 := len_empty
  have e1 := lRead
  have e2 := lWrite
  have e3 := lCopy
  have e4 := lBlank
  have e5 := lTell
  have e6 := lSpc
  cases s with
  | read x k n o =>
    obtain ⟨h1, h2, h3, h4⟩ := hb
    have h5 := h60 (spotS n o) (by simp [Stp.words])
    simp [Stp.p, ixP, atI_3, atI_4, fmt_s (z := x) (by omega), fmt_s (z := k) (by omega), spot_word_eq h1 h4, fmt_s (z := spotS n o) (by omega), litSp]
    refine ⟨sl_le ?_, sl_le ?_, sl_le ?_, sl_le ?_, sl_le ?_, sl_le ?_, ?_⟩
    iterate 6 (· simp only [len_append]; omega)
    first | refine congrArg P.str (ext_cs ?_) | refine ext_cs ?_
    simp [Stp.line, Stp.words, join_cs, TL.joinL, cs_append, cRead]
  | write k n o v =>
    obtain ⟨h1, h3, h4, hv⟩ := hb
    have h5 := h60 (spotS n o) (by simp [Stp.words])
    have h6 := h60 (valS v) (by simp [Stp.words])
    simp [Stp.p, ixP, atI_3, atI_4, fmt_s (z := k) (by omega), spot_word_eq h1 h4, fmt_s (z := spotS n o) (by omega), litSp, fmt_v hv]
    refine ⟨sl_le ?_, sl_le ?_, sl_le ?_, sl_le ?_, sl_le ?_, sl_le ?_, ?_⟩
    iterate 6 (· simp only [len_append]; omega)
    first | refine congrArg P.str (ext_cs ?_) | refine ext_cs ?_
    simp [Stp.line, Stp.words, join_cs, TL.joinL, cs_append, cWrite]
  | copy m n o n' o' =>
    obtain ⟨h0, h1, h1', h4, h4'⟩ := hb
    have h5 := h60 (spotS n o) (by simp [Stp.words])
    have h6 := h60 (spotS n' o') (by simp [Stp.words])
    have h7 := num_len h0
    simp [Stp.p, ixP, atI_3, atI_4, atI_5, fmt_i h0, spot_word_eq h1 h4, spot_word_eq h1' h4', fmt_s (z := spotS n o) (by omega), fmt_s (z := spotS n' o') (by omega), litSp]
    refine ⟨sl_le ?_, sl_le ?_, sl_le ?_, sl_le ?_, sl_le ?_, sl_le ?_, ?_⟩
    iterate 6 (· simp only [len_append]; omega)
    first | refine congrArg P.str (ext_cs ?_) | refine ext_cs ?_
    simp [Stp.line, Stp.words, join_cs, TL.joinL, cs_append, cCopy]
  | blank m n o =>
    obtain ⟨h0, h1, h4⟩ := hb
    have h5 := h60 (spotS n o) (by simp [Stp.words])
    have h7 := num_len h0
    simp [Stp.p, ixP, atI_3, atI_4, atI_5, fmt_i h0, spot_word_eq h1 h4, fmt_s (z := spotS n o) (by omega), litSp]
    refine ⟨sl_le ?_, sl_le ?_, sl_le ?_, sl_le ?_, ?_⟩
    iterate 4 (· simp only [len_append]; omega)
    first | refine congrArg P.str (ext_cs ?_) | refine ext_cs ?_
    simp [Stp.line, Stp.words, join_cs, TL.joinL, cs_append, cBlank]
  | tell x =>
    have hb : x.length ≤ 60 := hb
    simp [Stp.p, ixP, fmt_s (z := x) (by omega)]
    refine ⟨sl_le ?_, sl_le ?_, ?_⟩
    iterate 2 (· simp only [len_append]; omega)
    first | refine congrArg P.str (ext_cs ?_) | refine ext_cs ?_
    simp [Stp.line, Stp.words, join_cs, TL.joinL, cs_append, cTell]
theorem lines_of_eq {t : Txt} (hS : clSt S) (h : t.ok) : f_lines_of [.p t.pl, .p t.pt, .p t.st] S = .ok (.p (.lst (t.lines.map .str))) S := by
  apply Rs.sx.eq
  unfold f_lines_of b_lines_of
  have hnl := txt_line_n h
  have l1 := lPlace
  have l2 := lPointer
  have l3 := lSpc
  have l0 := len_empty
  have hk : ∀ q ∈ t.places, isNameS q.1 = true ∧ isKindS q.2 = true := fun q hq => ⟨h.nm _ (List.mem_append_left _ (List.mem_map_of_mem hq)), h.kd q hq⟩
  have hp : ∀ z ∈ t.ptrs, isNameS z = true := fun z hz => h.nm _ (List.mem_append_right _ hz)
  have hs : ∀ s ∈ t.steps, s.fine := fun s hs => by
    obtain ⟨vs, h1, h2⟩ := okSteps_each h.st (by simp) s hs
    exact fine_of h1 h.nm h2
  have ll : t.lines.length = t.places.length + t.ptrs.length + t.steps.length := by simp [Z.Txt.lines]; omega
  refine runZ_at hS fun F N T _ _ hT => ?_
  refine set_by (fun d S1 => d = .ref S.length ∧ S1 = S ++ [strsC (t.places.map plL)]) (fun R hR => ?_) ?_
  · simp [List.replicate, Txt.pl]
    rw [lc_mapT placeP (fun q => .str (plL q)) t.places [] (fun q hq => by
      obtain ⟨h1, h2⟩ := hk q hq
      have n1 := name_len h1
      have n2 := kind_len h2
      refine ⟨_, rfl, Rs.sx.eq ?_⟩
      simp [wipeS, fmt_s (z := q.1) (by omega), fmt_s (z := q.2) (by omega), litSp]
      refine ⟨sl_le ?_, sl_le ?_, sl_le ?_, sl_le ?_, ?_⟩
      iterate 4 (· simp only [len_append]; omega)
      first | refine congrArg P.str (ext_cs ?_) | refine ext_cs ?_
      simp [plL, plWd, join_cs, TL.joinL, cs_append, cPlace]) (sl_le (by simp; omega))]
    simp
    exact hR _ _ ⟨rfl, by simp [strsC]⟩
  rintro _ _ ⟨rfl, rfl⟩
  refine seq_by (fun sl S1 => S1 = S ++ [strsC (t.places.map plL ++ t.ptrs.map ptL)] ∧ sl = [some (.p t.pl), some (.p t.pt), some (.p t.st), some (.ref S.length), none, none, none]) (fun R hR => ?_) ?_
  · simp [List.replicate, Txt.pt, strsC]
    rw [lc_mapT P.str (fun q => .str (ptL q)) t.ptrs [] (fun q hq => by
      have n1 := name_len (hp q hq)
      refine ⟨_, rfl, Rs.sx.eq ?_⟩
      simp [wipeS, fmt_s (z := q) (by omega)]
      refine ⟨sl_le ?_, sl_le ?_, ?_⟩
      iterate 2 (· simp only [len_append]; omega)
      first | refine congrArg P.str (ext_cs ?_) | refine ext_cs ?_
      simp [ptL, ptWd, join_cs, TL.joinL, cs_append, cPointer]) (sl_le (by simp; omega))]
    simp
    refine ⟨sl_le (by omega), hR _ _ ⟨?_, rfl⟩⟩
    simp [strsC, Function.comp_def]
  rintro _ _ ⟨rfl, rfl⟩
  refine seq_by (fun sl S1 => S1 = S ++ [strsC t.lines] ∧ sl = [some (.p t.pl), some (.p t.pt), some (.p t.st), some (.ref S.length), none, none, none]) (fun R hR => ?_) ?_
  · simp [Txt.st, strsC]
    rw [lc_mapT Stp.p (fun q => .str q.line) t.steps [] (fun q hq => by
      refine ⟨_, rfl, Rs.sx.eq ?_⟩
      simp [wipeS, step_line_eq (hs q hq)]) (sl_le (by simp; omega))]
    simp
    refine ⟨sl_le (by omega), hR _ _ ⟨?_, rfl⟩⟩
    simp [strsC, Z.Txt.lines, Function.comp_def]
  rintro _ _ ⟨rfl, rfl⟩
  simp
  exact hT _ _ _ (fz_strs (L := [])) ⟨by simp, rfl⟩
theorem note_join {t : Txt} (h : t.ok) : joinP lf [.lst (t.lines.map .str)] = some (.str t.note) :=
  join_P (by decide +kernel) (fun z hz => Nat.le_trans (txt_line_le h z hz) (by omega)) (by have := txt_line_n h; omega)
def TxtP (t : Txt) : Z.P := .ins "Text" FT [t.pl, t.pt, t.st]
theorem fld_pl {t : Txt} {E : Xc → Store → Prop} {R : D → Store → Prop} : (fldG ["Text"] "places" S (.p (TxtP t))).sx E R = R (.p t.pl) S := fld_p (by simp) (by rfl)
theorem fld_pt {t : Txt} {E : Xc → Store → Prop} {R : D → Store → Prop} : (fldG ["Text"] "pointers" S (.p (TxtP t))).sx E R = R (.p t.pt) S := fld_p (by simp) (by kernel_rfl)
theorem fld_st {t : Txt} {E : Xc → Store → Prop} {R : D → Store → Prop} : (fldG ["Text"] "steps" S (.p (TxtP t))).sx E R = R (.p t.st) S := fld_p (by simp) (by kernel_rfl)
theorem write_text_eq {t : Txt} (hS : clSt S) (h : t.ok) : f_write_text [.p (TxtP t)] S = .ok (.p (.str t.note)) S := by
  apply Rs.sx.eq
  unfold f_write_text b_write_text
  rw [w_runB]
  simp [fld_pl, fld_pt, fld_st, lines_of_eq hS h]
  rw [show Str.ofString "\n" = lf from rfl, note_join h]
  simp
theorem note_eq {t : Txt} (h : t.ok) : f_note [.p t.pl, .p t.pt, .p t.st] S = .ok (.p (.str t.note)) S := by
  apply Rs.sx.eq
  unfold f_note b_note
  rw [w_runB]
  have hnl := txt_line_n h
  have l1 := lPlace
  have l2 := lPointer
  have l3 := lSpc
  have hk : ∀ q ∈ t.places, isNameS q.1 = true ∧ isKindS q.2 = true := fun q hq => ⟨h.nm _ (List.mem_append_left _ (List.mem_map_of_mem hq)), h.kd q hq⟩
  have hp : ∀ z ∈ t.ptrs, isNameS z = true := fun z hz => h.nm _ (List.mem_append_right _ hz)
  have hs : ∀ s ∈ t.steps, s.fine := fun s hs => by
    obtain ⟨vs, h1, h2⟩ := okSteps_each h.st (by simp) s hs
    exact fine_of h1 h.nm h2
  have ll : t.lines.length = t.places.length + t.ptrs.length + t.steps.length := by simp [Z.Txt.lines]; omega
  refine set_by (fun d S1 => S = S1 ∧ d = .p (.lst ((t.places.map plL ++ t.ptrs.map ptL).map .str))) (fun R hR => ?_) ?_
  · simp [List.replicate, Txt.pl, Txt.pt]
    rw [lc_mapT placeP (fun q => .str (plL q)) t.places [] (fun q hq => by
      obtain ⟨h1, h2⟩ := hk q hq
      have n1 := name_len h1
      have n2 := kind_len h2
      refine ⟨_, rfl, Rs.sx.eq ?_⟩
      simp [wipeS, litSp]
      rw [opAdd_s (sl_le (by omega)), opt_some, opAdd_s (sl_le (by rw [len_append]; omega)), opt_some, opAdd_s (sl_le (by rw [len_append, len_append]; omega)), opt_some]
      first | refine congrArg P.str (ext_cs ?_) | refine ext_cs ?_
      simp [plL, plWd, join_cs, TL.joinL, cs_append, cPlace]) (sl_le (by simp; omega))]
    simp
    rw [lc_mapT P.str (fun q => .str (ptL q)) t.ptrs [] (fun q hq => by
      have n1 := name_len (hp q hq)
      refine ⟨_, rfl, Rs.sx.eq ?_⟩
      simp [wipeS]
      rw [opAdd_s (sl_le (by omega)), opt_some]
      first | refine congrArg P.str (ext_cs ?_) | refine ext_cs ?_
      simp [ptL, ptWd, join_cs, TL.joinL, cs_append, cPointer]) (sl_le (by simp; omega))]
    simp [opAdd, sl_le]
    rw [if_pos (sl_le (by omega)), opt_some]
    refine hR _ _ ⟨rfl, ?_⟩
    simp [Function.comp_def]
  rintro _ _ ⟨rfl, rfl⟩
  simp [Txt.st]
  rw [lc_mapT Stp.p (fun q => .str q.line) t.steps [] (fun q hq => by
    refine ⟨_, rfl, Rs.sx.eq ?_⟩
    simp [wipeS, line_eq (hs q hq)]) (sl_le (by simp; omega))]
  have e : ([] ++ t.steps.map fun q => Z.P.str q.line) = (t.steps.map Stp.line).map .str := by simp [Function.comp_def]
  rw [sx_ok, e]
  have e2 : opAdd (.lst ((t.places.map plL ++ t.ptrs.map ptL).map .str)) (.lst ((t.steps.map Stp.line).map .str)) = some (.lst (t.lines.map .str)) := by
    simp only [opAdd, List.length_map, List.length_append]
    rw [if_pos (sl_le (by omega))]
    simp [Z.Txt.lines]
  have e3 := note_join h
  simp at e2
  simp [e2, litLf, e3]
end
end Kw

namespace Z
open PySem PySem.Spec PyProof.Rows L2
/-! ### what words write -/
theorem starts_one (z : Str) (c : Nat) : PySem.Txt.startswith z ⟨#[c]⟩ = (cs z).head?.any (· == c) := by
  unfold PySem.Txt.startswith
  rw [StrLaws.subAt_eq]
  have hl : (⟨#[c]⟩ : Str).length = 1 := rfl
  have hz := cs_len z
  show (decide (0 + 1 ≤ z.length) && (((cs z).drop 0).take 1 == [c])) = _
  rw [← hz]
  cases cs z with
  | nil => rfl
  | cons a l => simp
def minus : Str := "-"
theorem minus_eq : minus = ⟨#[45]⟩ := by decide +kernel
def plainL (l : List Nat) : List Nat := if l.head?.any (· == 45) then l.tail else l
def figL (l : List Nat) : Bool := l.all fun c => mem c FIGS
def numOkL (l : List Nat) : Bool := !(plainL l).isEmpty && (decide ((plainL l).length ≤ 40) && (figL (plainL l) && (!((plainL l).head?.any (· == 48)) || l == [48])))
def valL (l : List Nat) : Int := if l.head?.any (· == 45) then -((NumText.digitsVal l.tail : Nat) : Int) else ((NumText.digitsVal l : Nat) : Int)
def numP (z : Str) : P := if numOkL (cs z) = true then .int (valL (cs z)) else .non
def cntP (z : Str) : P := if (cs z).head?.any (· == 45) then .non else numP z
theorem cs_FIGS : cs FIGS = [48, 49, 50, 51, 52, 53, 54, 55, 56, 57] := by decide +kernel
theorem mem_figs (c : Nat) : mem c FIGS = (decide (48 ≤ c) && decide (c ≤ 57)) := by
  unfold mem
  rw [cs_FIGS, Bool.eq_iff_iff]
  simp
  omega
theorem fig_digits {l : List Nat} (h : figL l = true) : NumText.AllDigits l := fun c hc => by
  have := List.all_eq_true.mp h c hc
  rw [mem_figs] at this
  simpa using this
theorem cut1 (z : Str) : cs (cutS z (some 1) none) = (cs z).tail := by
  rw [cs_cut]
  cases h : cs z with
  | nil => rfl
  | cons c r => rw [cutD_tail]; rfl
theorem conS_figs {z : Str} : conS z FIGS = figL (cs z) := rfl
theorem ext_iff {x : Str} {l : List Nat} : x = ⟨l.toArray⟩ ↔ cs x = l := by
  constructor
  · rintro rfl; rfl
  · intro h; exact ext_cs h
theorem eq_empty {x : Str} : (x = Str.ofString "") ↔ (cs x) = [] := by
  constructor
  · rintro rfl; decide +kernel
  · intro h; exact ext_cs (by rw [h]; decide +kernel)
theorem eq_zero {x : Str} : (x = Str.ofString "0") ↔ (cs x) = [48] := by
  constructor
  · rintro rfl; decide +kernel
  · intro h; exact ext_cs (by rw [h]; decide +kernel)
theorem opNe_w {a b : Str} (ha : chOk a = true) (hb : chOk b = true) : opNe (.str a) (.str b) = some (.bl (!decide (a = b))) := by
  rw [opNe_ok (show fin dpt (.str a) = true from ha) (show fin dpt (.str b) = true from hb)]
  simp only [eqv]
  by_cases h : a = b <;> simp [h]
theorem okE : chOk (Str.ofString "") = true := by decide +kernel
theorem ok0 : chOk (Str.ofString "0") = true := by decide +kernel
end Z
namespace Kw
open PySem PySem.Spec PyProof.Rows L2 Z
section
variable {S : Store}
theorem int_of {z : Str} (hn : numOkL (cs z) = true) : intP [.str z] = some (.int (valL (cs z))) := by
  unfold numOkL at hn
  simp only [Bool.and_eq_true, Bool.not_eq_true', List.isEmpty_eq_false_iff, decide_eq_true_eq] at hn
  obtain ⟨h1, h2, h3, _⟩ := hn
  have hd := fig_digits h3
  have hl := cs_len z
  unfold plainL at h1 h2 hd
  unfold valL
  simp only [intP]
  by_cases hm : (cs z).head?.any (· == 45) = true
  · rw [if_pos hm] at h1 h2 hd ⊢
    obtain ⟨r, hr⟩ : ∃ r, cs z = 45 :: r := by
      cases hc : cs z with
      | nil => rw [hc] at hm; simp at hm
      | cons a r => rw [hc] at hm; simp at hm; exact ⟨r, by rw [hm]⟩
    rw [hr] at h1 h2 hd hl ⊢
    simp only [List.tail_cons, List.length_cons] at h1 h2 hd hl ⊢
    rw [if_pos (by omega), PySem.intText_neg (x := z) hr hd h1 (by omega)]
    rfl
  · rw [if_neg hm] at h1 h2 hd ⊢
    rw [if_pos (by omega), PySem.intText_digits (x := z) hd h1 (by omega)]
    rfl
theorem number_in_eq {z : Str} (hz : z.length ≤ 1000) (hc : chOk z = true) : f_number_in [.p (.str z)] S = .ok (.p (numP z)) S := by
  apply Rs.sx.eq
  unfold f_number_in b_number_in
  rw [w_runB]
  have hl := cs_len z
  refine set_by (fun d S1 => S = S1 ∧ ∃ y : Str, d = .p (.str y) ∧ cs y = plainL (cs z) ∧ chOk y = true) (fun R hR => ?_) ?_
  · simp [List.replicate, startsP]
    rw [show Str.ofString "-" = ⟨#[45]⟩ from minus_eq, starts_one]
    by_cases hm : (cs z).head?.any (· == 45) = true
    · simp [hm, slP_z (sl_le hz)]
      exact hR _ _ ⟨rfl, _, rfl, by rw [cut1, plainL, if_pos hm], chOk_cut hc _ _⟩
    · simp only [hm]
      simp
      exact hR _ _ ⟨rfl, _, rfl, by rw [plainL, if_neg hm], hc⟩
  rintro _ _ ⟨rfl, y, rfl, hy, hcy⟩
  have hyl := cs_len y
  have hpl : (plainL (cs z)).length ≤ (cs z).length := by unfold plainL; split <;> simp
  have hy1 : y.length ≤ 1000 := by rw [← hyl, hy]; omega
  refine step_if (b := (plainL (cs z)).isEmpty || (!decide ((plainL (cs z)).length ≤ 40) || !figL (plainL (cs z)))) (S' := S) (tok ?_) (fun hb => ?_) fun hb => ?_
  · simp [opEq_w hcy okE, lenP_z (sl_le hy1), consists_eq (sl_le hy1), litF]
    rw [show conS y FIGS = figL (plainL (cs z)) by rw [← hy]; rfl]
    by_cases h1 : y = Str.ofString ""
    · have h1' := eq_empty.mp h1
      rw [hy] at h1'
      simp [h1, h1']
    · have h1' : ¬ plainL (cs z) = [] := by rw [← hy]; exact fun h => h1 (eq_empty.mpr h)
      simp [h1, h1']
      rw [← hy]
      by_cases h2 : (40 : Int) < (y.length : Int)
      · have : ¬ (cs y).length ≤ 40 := by omega
        simp [h2]
        exact .inl (by omega)
      · have : (cs y).length ≤ 40 := by omega
        simp [h2, this]
        intro _
        rw [hy]; exact h1'
  · simp
    have : numOkL (cs z) = false := by
      unfold numOkL
      cases h1 : (plainL (cs z)).isEmpty
      · rw [h1] at hb
        cases h2 : decide ((plainL (cs z)).length ≤ 40)
        · simp
        · rw [h2] at hb
          simp at hb
          simp [hb]
      · simp
    simp [numP, this]
  simp only [Bool.or_eq_false_iff, Bool.not_eq_false', decide_eq_true_eq] at hb
  obtain ⟨b1, b2, b3⟩ := hb
  obtain ⟨a, r, har⟩ : ∃ a r, plainL (cs z) = a :: r := by
    cases h : plainL (cs z) with
    | nil => rw [h] at b1; cases b1
    | cons a r => exact ⟨a, r, rfl⟩
  have hix : ixP (.str y) (.int 0) = some (ch a) := by
    rw [ixP_z (sl_le hy1), hy, har]
    simp
  have ha : chOk ⟨#[a]⟩ = true := chOk_one (chOk_mem hcy a (by rw [hy, har]; simp))
  have ea : (⟨#[a]⟩ : Str) = Str.ofString "0" ↔ a = 48 := by
    rw [eq_zero]
    show [a] = [48] ↔ _
    simp
  refine step_if (b := (a == 48) && !decide (z = Str.ofString "0")) (S' := S) (tok ?_) (fun hb => ?_) fun hb => ?_
  · simp [List.replicate, hix, ch, opEq_w ha ok0, opNe_w hc ok0]
    by_cases h : a = 48
    · subst h
      have e48 : (⟨#[48]⟩ : Str) = Str.ofString "0" := ea.mpr rfl
      simp [e48]
    · have : ¬ (⟨#[a]⟩ : Str) = Str.ofString "0" := fun e => h (ea.mp e)
      simp [this, h]
  · simp
    simp only [Bool.and_eq_true, beq_iff_eq, Bool.not_eq_true', decide_eq_false_iff_not] at hb
    obtain ⟨rfl, hb⟩ := hb
    have : numOkL (cs z) = false := by
      unfold numOkL
      have : ¬ cs z = [48] := fun e => hb (eq_zero.mpr e)
      simp [har, this]
    simp [numP, this]
  · have : numOkL (cs z) = true := by
      unfold numOkL
      rw [b1, b3, decide_eq_true b2, har]
      simp only [Bool.not_false, Bool.true_and, List.head?_cons, Option.any_some]
      by_cases h : a = 48
      · subst h
        simp at hb
        rw [hb]
        decide +kernel
      · simp [h]
    simp [List.replicate, int_of this, numP, this]
theorem count_in_eq {z : Str} (hz : z.length ≤ 1000) (hc : chOk z = true) : f_count_in [.p (.str z)] S = .ok (.p (cntP z)) S := by
  apply Rs.sx.eq
  unfold f_count_in b_count_in
  rw [w_runB]
  simp [startsP]
  rw [show Str.ofString "-" = ⟨#[45]⟩ from minus_eq, starts_one]
  unfold cntP
  by_cases hm : (cs z).head?.any (· == 45) = true
  · simp [hm]
  · simp only [hm]
    simp [number_in_eq hz hc]
end
end Kw
namespace Z
open PySem PySem.Spec PyProof.Rows L2
/-! ### words that were written -/
theorem numL_head : ∀ {n : Nat}, 0 < n → (TL.numL n).head?.any (· == 48) = false := by
  intro n
  induction n using Nat.strongRecOn with
  | _ n ih =>
    intro hn
    by_cases h : n < 10
    · rw [TL.numL_lt h]; simp; omega
    · rw [TL.numL_step (by omega)]
      have := ih (n / 10) (by omega) (by omega)
      have hne := TL.numL_ne (n / 10)
      cases hl : TL.numL (n / 10) with
      | nil => exact absurd hl hne
      | cons a r => rw [hl] at this; simpa using this
theorem numL_fig (n : Nat) : figL (TL.numL n) = true := List.all_eq_true.mpr fun c hc => by
  have := TL.numL_digits n c hc
  rw [mem_figs]; simp; omega
theorem numL_nohead (n : Nat) : (TL.numL n).head?.any (· == 45) = false := by
  cases h : TL.numL n with
  | nil => rfl
  | cons a r =>
    have := TL.numL_digits n a (by rw [h]; simp)
    simp; omega
theorem numL_pos (n : Nat) : ∃ a r, TL.numL n = a :: r := by
  cases h : TL.numL n with
  | nil => exact absurd h (TL.numL_ne n)
  | cons a r => exact ⟨a, r, rfl⟩
theorem numNat_ok {n : Nat} (h : n < 10 ^ 40) : numOkL (TL.numL n) = true := by
  by_cases hz : n = 0
  · subst hz; decide +kernel
  · have hn := numL_nohead n
    have hl := TL.numL_len (n := n) (k := 40) (by decide) h
    unfold numOkL plainL
    rw [hn]
    simp only [Bool.false_eq_true, if_false]
    rw [numL_fig, decide_eq_true hl, numL_head (by omega)]
    obtain ⟨a, r, e⟩ := numL_pos n
    rw [e]; simp
theorem num_ok {i : Int} (h : absI i < 10 ^ 40) : numOkL (cs (numS i)) = true ∧ valL (cs (numS i)) = i := by
  unfold absI at h
  by_cases h0 : 0 ≤ i
  · rw [if_neg (by omega)] at h
    rw [cs_num h0]
    have hn := numL_nohead i.toNat
    have hl := TL.numL_len (n := i.toNat) (k := 40) (by decide) (by omega)
    have hv := TL.numL_val i.toNat
    constructor
    · exact numNat_ok (by omega)
    · unfold valL
      rw [hn]
      simp only [Bool.false_eq_true, if_false, hv]
      omega
  · rw [if_pos (by omega)] at h
    rw [cs_neg (by omega)]
    have hl := TL.numL_len (n := (-i).toNat) (k := 40) (by decide) (by omega)
    have hv := TL.numL_val (-i).toNat
    obtain ⟨a, r, e⟩ := numL_pos (-i).toNat
    have hh := numL_head (n := (-i).toNat) (by omega)
    have hf := numL_fig (-i).toNat
    constructor
    · unfold numOkL plainL
      simp only [List.head?_cons, Option.any_some, beq_self_eq_true, if_true, List.tail_cons]
      rw [hf, decide_eq_true hl, hh, e]
      simp
    · unfold valL
      simp only [List.head?_cons, Option.any_some, beq_self_eq_true, if_true, List.tail_cons, hv]
      omega
theorem numP_num {i : Int} (h : absI i < 10 ^ 40) : numP (numS i) = .int i := by
  obtain ⟨h1, h2⟩ := num_ok h
  unfold numP
  rw [if_pos h1, h2]
theorem cntP_num {i : Int} (h0 : 0 ≤ i) (h : i < 10 ^ 40) : cntP (numS i) = .int i := by
  unfold cntP
  rw [cs_num h0, numL_nohead]
  simp only [Bool.false_eq_true, if_false]
  exact numP_num (by unfold absI; split <;> omega)
theorem lower_rng : ∀ c ∈ cs LOWERS, 97 ≤ c ∧ c ≤ 122 := by decide +kernel
theorem name_head {z : Str} (h : isNameS z = true) : ∃ c r, cs z = c :: r ∧ 97 ≤ c ∧ c ≤ 122 := by
  unfold isNameS headIn at h
  simp only [Bool.and_eq_true] at h
  obtain ⟨_, h1, _⟩ := h
  cases hc : cs z with
  | nil => rw [hc] at h1; simp at h1
  | cons c r =>
    rw [hc] at h1
    simp only at h1
    exact ⟨c, r, rfl, lower_rng c (of_decide_eq_true h1)⟩
theorem numP_name {z : Str} (h : isNameS z = true) : numP z = .non := by
  obtain ⟨c, r, e, h1, h2⟩ := name_head h
  have : numOkL (cs z) = false := by
    have hp : plainL (c :: r) = c :: r := by
      unfold plainL
      rw [if_neg (by simp; omega)]
    have : mem c FIGS = false := by rw [mem_figs]; simp; omega
    unfold numOkL figL
    rw [e, hp]
    simp [this]
  simp [numP, this]
end Z

namespace Z
open PySem PySem.Spec PyProof.Rows L2
/-! ### what words say, of any line -/
/-- short texts of characters -/
def St (z : Str) : Prop := z.length ≤ 1000 ∧ chOk z = true
theorem St.sm {z : Str} {n : Nat} (h : St z) : sm n (.str z) = true := by cases n <;> simp [Z.sm, h.1, h.2]
theorem st_sub {x : Str} {l : List Nat} (h : St x) (hl : l.length ≤ (cs x).length) (hm : ∀ c ∈ l, c ∈ cs x) : St ⟨l.toArray⟩ := by
  refine ⟨?_, chOk_of fun c hc => chOk_mem h.2 c (hm c hc)⟩
  have := cs_len x
  have := cs_len ⟨l.toArray⟩
  have e : cs ⟨l.toArray⟩ = l := rfl
  rw [e] at this
  have := h.1
  omega
def parP (z : Str) : Option (List Nat × List Nat) := TL.par [43] [] (cs z)
def spotP (z : Str) : P × P := match parP z with
  | some (a, b) => (match cntP ⟨b.toArray⟩ with
    | .int i => (.str ⟨a.toArray⟩, .int i)
    | _ => (.non, .non))
  | none => (.non, .non)
theorem par_mem : ∀ (l acc a b : List Nat), TL.par [43] acc l = some (a, b) → (∀ c ∈ a, c ∈ acc ++ l) ∧ (∀ c ∈ b, c ∈ l) ∧ a.length + b.length < acc.length + l.length
  | [], _, _, _, h => nomatch h
  | c :: r, acc, a, b, h => by
    by_cases hp : TL.pre [43] (c :: r) = true
    · rw [TL.par_hit hp] at h
      cases h
      refine ⟨fun x hx => List.mem_append_left _ hx, fun x hx => List.mem_cons_of_mem _ (by simpa using hx), by simp⟩
    · rw [TL.par_miss (by simpa using hp)] at h
      obtain ⟨h1, h2, h3⟩ := par_mem r (acc ++ [c]) a b h
      refine ⟨fun x hx => by have := h1 x hx; simpa using this, fun x hx => List.mem_cons_of_mem _ (h2 x hx), by simp at h3 ⊢; omega⟩
theorem cntP_cases (z : Str) : cntP z = .non ∨ ∃ i, cntP z = .int i := by
  unfold cntP numP
  split
  · exact .inl rfl
  · split
    · exact .inr ⟨_, rfl⟩
    · exact .inl rfl
theorem spotP_cases {z : Str} (h : St z) : spotP z = (.non, .non) ∨ ∃ (x : Str) (i : Int), spotP z = (.str x, .int i) ∧ St x := by
  unfold spotP parP
  cases hp : TL.par [43] [] (cs z) with
  | none => exact .inl rfl
  | some q =>
    obtain ⟨a, b⟩ := q
    simp only []
    rcases cntP_cases ⟨b.toArray⟩ with e | ⟨i, e⟩
    · rw [e]; exact .inl rfl
    · rw [e]
      obtain ⟨h1, h2, h3⟩ := par_mem _ _ _ _ hp
      exact .inr ⟨_, i, rfl, st_sub h (by simp at h3; omega) (by simpa using h1)⟩
def valIn (z : Str) : P := match numP z with
  | .int i => .int i
  | _ => if isNameS z = true then .str z else .non
def chk (ps : List P) : P := if isStepP (.tup ps) = true then .tup ps else .non
def stepIn : List Str → P
  | [w, a, b, c] => if w = "read" then chk [.str "read", .str a, .str b, (spotP c).1, (spotP c).2]
    else if w = "write" then chk [.str "write", .str a, (spotP b).1, (spotP b).2, valIn c]
    else if w = "copy" then chk [.str "copy", cntP a, (spotP b).1, (spotP b).2, (spotP c).1, (spotP c).2]
    else .non
  | [w, a, b] => if w = "blank" then chk [.str "blank", cntP a, (spotP b).1, (spotP b).2] else .non
  | [w, a] => if w = "tell" then chk [.str "tell", .str a] else .non
  | _ => .non
def entW (ws : List Str) : P :=
  if ws.headD Str.empty = "place" then (match ws with
    | [_, a, b] => if isNameS a = true ∧ isKindS b = true then .tup [.int 0, .tup [.str a, .str b]] else .non
    | _ => .non)
  else if ws.headD Str.empty = "pointer" then (match ws with
    | [_, a] => if isNameS a = true then .tup [.int 1, .str a] else .non
    | _ => .non)
  else match stepIn ws with
    | .tup ps => .tup [.int 2, .tup ps]
    | _ => .non
def entP (z : Str) : P := entW (PySem.Txt.split z spc)
theorem spl_mem (s : Nat) : ∀ (l acc : List Nat), (∀ w ∈ TL.spl [s] 0 acc l, w.length ≤ acc.length + l.length ∧ ∀ c ∈ w, c ∈ acc ++ l) ∧ (TL.spl [s] 0 acc l).length ≤ l.length + 1 ∧ TL.spl [s] 0 acc l ≠ []
  | [], acc => by rw [TL.spl_nil]; simp
  | c :: r, acc => by
    by_cases hp : TL.pre [s] (c :: r) = true
    · rw [TL.spl_hit hp]
      obtain ⟨h1, h2, h3⟩ := spl_mem s r []
      refine ⟨fun w hw => ?_, Nat.succ_le_succ h2, by simp⟩
      rcases List.mem_cons.mp hw with rfl | hw
      · exact ⟨by omega, fun x hx => List.mem_append_left _ hx⟩
      · obtain ⟨a1, a2⟩ := h1 w hw
        refine ⟨by simp at a1 ⊢; omega, fun x hx => ?_⟩
        have := a2 x hx
        simp at this
        exact List.mem_append_right _ (List.mem_cons_of_mem _ this)
    · rw [TL.spl_miss (by simpa using hp)]
      obtain ⟨h1, h2, h3⟩ := spl_mem s r (acc ++ [c])
      refine ⟨fun w hw => ?_, by simp; omega, h3⟩
      obtain ⟨a1, a2⟩ := h1 w hw
      refine ⟨by simp at a1 ⊢; omega, fun x hx => by have := a2 x hx; simpa using this⟩
theorem split_one {z : Str} {s : Nat} (hs : s < 256) : (PySem.Txt.split z ⟨#[s]⟩).map cs = TL.spl [s] 0 [] (cs z) :=
  TL.split_spl z ⟨#[s]⟩ (by simp) (TL.kind_ok (by simp [hs]))
theorem split_st {z : Str} {s : Nat} (hs : s < 256) (h : St z) : (∀ w ∈ PySem.Txt.split z ⟨#[s]⟩, St w) ∧ (PySem.Txt.split z ⟨#[s]⟩).length ≤ 1001 ∧ PySem.Txt.split z ⟨#[s]⟩ ≠ [] := by
  obtain ⟨h1, h2, h3⟩ := spl_mem s (cs z) []
  rw [← split_one hs] at h1 h2 h3
  have hz := cs_len z
  have := h.1
  refine ⟨fun w hw => ?_, by simp at h2; omega, fun e => h3 (by rw [e]; rfl)⟩
  obtain ⟨a1, a2⟩ := h1 (cs w) (List.mem_map_of_mem hw)
  have := st_sub h (l := cs w) (by simpa using a1) (by simpa using a2)
  rwa [show (⟨(cs w).toArray⟩ : Str) = w from TL.mk_tl w] at this
theorem spc_eq : spc = ⟨#[32]⟩ := by decide +kernel
theorem lf_eq : lf = ⟨#[10]⟩ := by decide +kernel
theorem plus_eq : plus = ⟨#[43]⟩ := by decide +kernel
end Z
namespace Kw
open PySem PySem.Spec PyProof.Rows L2 Z
section
variable {S : Store}
theorem spot_in_eq {z : Str} (h : St z) : f_spot_in [.p (.str z)] S = .ok (.p (.tup [(spotP z).1, (spotP z).2])) S := by
  apply Rs.sx.eq
  unfold f_spot_in b_spot_in
  rw [w_runB]
  have hpar := TL.partition_par z plus (by rw [plus_eq]; simp)
  rw [show TL.par (TL.tl plus) [] (TL.tl z) = parP z by rw [plus_eq]; rfl] at hpar
  have hcond : (plus.length == 0) = false ∧ z.length ≤ sizeLine := ⟨by decide +kernel, sl_le h.1⟩
  unfold spotP
  cases hp : parP z with
  | none =>
    rw [hp] at hpar
    have e : partitionP z [.str plus] = some (.tup [.str z, .str Str.empty, .str Str.empty]) := by
      simp only [partitionP]
      rw [if_pos hcond, hpar]
    have c0 := count_in_eq (S := S) (z := Str.empty) (by decide) (by decide +kernel)
    have c1 : cntP Str.empty = .non := by decide +kernel
    simp [List.replicate, litP, e, effT, effsC, effsN, c0, c1]
    rw [show opEq (.str Str.empty) (.str (Str.ofString "")) = some (.bl true) by rw [opEq_w (by decide +kernel) okE]; decide +kernel]
    simp
  | some q =>
    obtain ⟨a, b⟩ := q
    rw [hp] at hpar
    obtain ⟨h1, h2, h3⟩ := par_mem _ _ _ _ hp
    have sb : St ⟨b.toArray⟩ := st_sub h (by simp at h3; omega) (by simpa using h2)
    have e : partitionP z [.str plus] = some (.tup [.str ⟨a.toArray⟩, .str plus, .str ⟨b.toArray⟩]) := by
      simp only [partitionP]
      rw [if_pos hcond, hpar]
    have c0 := count_in_eq (S := S) sb.1 sb.2
    have e2 : opEq (.str plus) (.str (Str.ofString "")) = some (.bl false) := by rw [opEq_w (by decide +kernel) okE]; decide +kernel
    simp [List.replicate, litP, e, effT, effsC, effsN, c0, e2]
    rcases cntP_cases ⟨b.toArray⟩ with e3 | ⟨i, e3⟩
    · rw [e3]; simp [opIsN]
    · rw [e3]; simp [opIsN]
theorem value_in_eq {z : Str} (h : St z) : f_value_in [.p (.str z)] S = .ok (.p (valIn z)) S := by
  apply Rs.sx.eq
  unfold f_value_in b_value_in
  rw [w_runB]
  have hn : ∀ S, f_is_name [.p (.str z)] S = .ok (.p (.bl (isNameS z))) S := fun S => is_name_eq (n := 0) h.sm
  simp [List.replicate, number_in_eq h.1 h.2, hn]
  unfold valIn numP
  by_cases h1 : numOkL (cs z) = true
  · simp [h1, opIsN]
  · simp only [h1]
    simp [opIsN]
theorem checked_eq {n : Nat} {ps : List Z.P} (h : sm n (.tup ps) = true) : f_checked [.p (.tup ps)] S = .ok (.p (chk ps)) S := by
  apply Rs.sx.eq
  unfold f_checked b_checked
  rw [w_runB]
  simp [is_step_eq h]
  unfold chk
  by_cases h1 : isStepP (.tup ps) = true
  · simp [h1]
  · simp [h1]
theorem sm_of {ps : List Z.P} (h : ∀ p ∈ ps, sm 0 p = true) (hl : ps.length ≤ 1000) : sm 1 (.tup ps) = true := by
  simp only [sm, Bool.and_eq_true, decide_eq_true_eq, List.all_eq_true]
  exact ⟨hl, h⟩
theorem sm_spot {z : Str} (h : St z) : sm 0 (spotP z).1 = true ∧ sm 0 (spotP z).2 = true := by
  rcases spotP_cases h with e | ⟨x, i, e, hx⟩
  · rw [e]; exact ⟨rfl, rfl⟩
  · rw [e]; exact ⟨hx.sm, rfl⟩
theorem sm_cnt (z : Str) : sm 0 (cntP z) = true := by
  rcases cntP_cases z with e | ⟨i, e⟩ <;> rw [e] <;> rfl
theorem sm_val {z : Str} (h : St z) : sm 0 (valIn z) = true := by
  unfold valIn numP
  by_cases h1 : numOkL (cs z) = true
  · rw [if_pos h1]; rfl
  · rw [if_neg h1]; simp only []
    by_cases h2 : isNameS z = true
    · rw [if_pos h2]; exact h.sm
    · rw [if_neg h2]; rfl
theorem sm_w {z : Str} (h : (chOk z && decide (z.length ≤ 1000)) = true) : sm 0 (.str z) = true := h
theorem spot_D (z : Str) (h : St z) {E : Xc → Store → Prop} {R : D → Store → Prop} : (f_spot_in [.p (.str z)] S).sx E R = R (.p (.tup [(spotP z).1, (spotP z).2])) S := by rw [spot_in_eq h, sx_ok]
theorem step_in_eq {ws : List Str} (h : ∀ w ∈ ws, St w) : f_step_in [.p (.lst (ws.map .str))] S = .ok (.p (stepIn ws)) S := by
  apply Rs.sx.eq
  unfold f_step_in b_step_in
  rw [w_runB]
  match ws, h with
  | [], _ => simp [List.replicate, matchL, stepIn]
  | [w], _ => simp [List.replicate, matchL, stepIn]
  | [w, a], h =>
    have ha := h a (by simp)
    by_cases hw : w = "tell"
    · subst hw
      have hc := checked_eq (S := S) (sm_of (ps := [.str "tell", .str a]) (by simp [ha.sm]; decide +kernel) (by simp))
      simp [List.replicate, matchL, matchE, setB, stepIn, hc]
    · simp [List.replicate, matchL, matchE, stepIn, hw]
  | [w, a, b], h =>
    have ha := h a (by simp)
    have hb := h b (by simp)
    by_cases hw : w = "blank"
    · subst hw
      have hc := checked_eq (S := S) (sm_of (ps := [.str "blank", cntP a, (spotP b).1, (spotP b).2]) (by simp [sm_cnt, sm_spot hb]; decide +kernel) (by simp))
      simp [List.replicate, matchL, matchE, setB, stepIn, hc, spot_D _ hb, effT, effsC, effsN, count_in_eq ha.1 ha.2]
    · simp [List.replicate, matchL, matchE, stepIn, hw]
  | [w, a, b, c], h =>
    have ha := h a (by simp)
    have hb := h b (by simp)
    have hcc := h c (by simp)
    by_cases h1 : w = "read"
    · subst h1
      have hc := checked_eq (S := S) (sm_of (ps := [.str "read", .str a, .str b, (spotP c).1, (spotP c).2]) (by simp [ha.sm, hb.sm, sm_spot hcc]; decide +kernel) (by simp))
      simp [List.replicate, matchL, matchE, setB, stepIn, hc, spot_D _ hcc, effT, effsC, effsN]
    by_cases h2 : w = "write"
    · subst h2
      have hc := checked_eq (S := S) (sm_of (ps := [.str "write", .str a, (spotP b).1, (spotP b).2, valIn c]) (by simp [ha.sm, sm_val hcc, sm_spot hb]; decide +kernel) (by simp))
      simp [List.replicate, matchL, matchE, setB, stepIn, hc, spot_D _ hb, effT, effsC, effsN, value_in_eq hcc]
    by_cases h3 : w = "copy"
    · subst h3
      have hc := checked_eq (S := S) (sm_of (ps := [.str "copy", cntP a, (spotP b).1, (spotP b).2, (spotP c).1, (spotP c).2]) (by simp [sm_cnt, sm_spot hcc, sm_spot hb]; decide +kernel) (by simp))
      simp [List.replicate, matchL, matchE, setB, stepIn, hc, spot_D _ hb, spot_D _ hcc, effT, effsC, effsN, count_in_eq ha.1 ha.2]
    simp [List.replicate, matchL, matchE, stepIn, h1, h2, h3]
  | w :: a :: b :: c :: d :: r, _ =>
    have e1 : ¬ (r.length + 1 + 1 + 1 + 1 + 1 = 4) := by omega
    have e2 : ¬ (r.length + 1 + 1 + 1 + 1 + 1 = 3) := by omega
    have e3 : ¬ (r.length + 1 + 1 + 1 + 1 + 1 = 2) := by omega
    simp [List.replicate, matchL, stepIn, e1, e2, e3]
end
end Kw

namespace Z
open PySem PySem.Spec PyProof.Rows L2
theorem split_P {z : Str} {s : Nat} (hs : s < 256) (h : St z) : splitP z [.str ⟨#[s]⟩] = some (.lst ((PySem.Txt.split z ⟨#[s]⟩).map .str)) := by
  simp only [splitP]
  rw [if_pos ⟨rfl, sl_le_two h.1⟩]
where sl_le_two : z.length ≤ 1000 → z.length + 2 ≤ sizeLine := fun h => Nat.le_trans (show z.length + 2 ≤ 1002 by omega) (by decide)
theorem okPlace : chOk (Str.ofString "place") = true := by decide +kernel
theorem okPointer : chOk (Str.ofString "pointer") = true := by decide +kernel
theorem stepIn_cases (ws : List Str) : stepIn ws = .non ∨ ∃ ps, stepIn ws = .tup ps ∧ isStepP (.tup ps) = true := by
  have hk : ∀ ps, chk ps = .non ∨ ∃ qs, chk ps = .tup qs ∧ isStepP (.tup qs) = true := fun ps => by
    unfold chk
    split
    · rename_i h; exact .inr ⟨_, rfl, h⟩
    · exact .inl rfl
  unfold stepIn
  split
  · split
    · exact hk _
    · split
      · exact hk _
      · split
        · exact hk _
        · exact .inl rfl
  · split
    · exact hk _
    · exact .inl rfl
  · split
    · exact hk _
    · exact .inl rfl
  · exact .inl rfl
/-! lines that were written -/
theorem words_back {ws : List Str} (h : ∀ w ∈ ws, Wd w) (hne : ws ≠ []) : PySem.Txt.split (PySem.Txt.join spc ws) spc = ws :=
  TL.split_join (s := 32) (S := []) (by rw [spc_eq]) (by rw [spc_eq]; decide +kernel) hne fun p hp => (h p hp).s
theorem lines_back {ls : List Str} (h : ∀ l ∈ ls, 10 ∉ cs l) (hne : ls ≠ []) : PySem.Txt.split (PySem.Txt.join lf ls) lf = ls :=
  TL.split_join (s := 10) (S := []) (by rw [lf_eq]) (by rw [lf_eq]; decide +kernel) hne h
theorem line_nolf {ws : List Str} (h : ∀ w ∈ ws, Wd w) : 10 ∉ cs (PySem.Txt.join spc ws) := by
  rw [join_cs]
  intro hm
  induction ws with
  | nil => simp [TL.joinL] at hm
  | cons w ws ih =>
    cases ws with
    | nil => simp only [List.map_cons, List.map_nil, TL.joinL] at hm; exact (h w (by simp)).l hm
    | cons u us =>
      simp only [List.map_cons, TL.joinL, List.mem_append] at hm
      rcases hm with hm | hm | hm
      · exact (h w (by simp)).l hm
      · rw [spc_eq] at hm; simp [cs] at hm
      · exact ih (fun z hz => h z (List.mem_cons_of_mem _ hz)) hm
theorem join_ch {y : Str} (hy : chOk y = true) : ∀ {ws : List Str}, (∀ w ∈ ws, chOk w = true) → chOk (PySem.Txt.join y ws) = true := by
  intro ws h
  refine chOk_of fun c hc => ?_
  rw [join_cs] at hc
  induction ws with
  | nil => simp [TL.joinL] at hc
  | cons w ws ih =>
    cases ws with
    | nil => simp only [List.map_cons, List.map_nil, TL.joinL] at hc; exact chOk_mem (h w (by simp)) c hc
    | cons u us =>
      simp only [List.map_cons, TL.joinL, List.mem_append] at hc
      rcases hc with hm | hm | hm
      · exact chOk_mem (h w (by simp)) c hm
      · exact chOk_mem hy c hm
      · exact ih (fun z hz => h z (List.mem_cons_of_mem _ hz)) hm
theorem spotP_spot {n : Str} {o : Int} (hn : isNameS n = true) (h0 : 0 ≤ o) (h1 : o ≤ 9) : spotP (spotS n o) = (.str n, .int o) := by
  have hpl : 43 ∉ cs n := fun hc => by have := signs_rng _ (name_signs hn _ hc); omega
  have hp : parP (spotS n o) = some (cs n, cs (numS o)) := by
    unfold parP spotS
    rw [cs_append, cs_append, cs_plus, List.append_assoc]
    have := TL.par_part1 (s := 43) (S := []) (p := cs n) (rest := cs (numS o)) (acc := []) hpl
    simpa using this
  unfold spotP
  rw [hp]
  simp only []
  rw [show (⟨(cs (numS o)).toArray⟩ : Str) = numS o from TL.mk_tl _, show (⟨(cs n).toArray⟩ : Str) = n from TL.mk_tl _, cntP_num h0 (by omega)]
theorem valIn_val {v : P} (h : (∃ i, v = .int i ∧ absI i < 10 ^ 40) ∨ ∃ x : Str, v = .str x ∧ isNameS x = true) : valIn (valS v) = v := by
  rcases h with ⟨i, rfl, hi⟩ | ⟨x, rfl, hx⟩
  · simp [valIn, valS, numP_num hi]
  · simp [valIn, valS, numP_name hx, hx]
theorem stepIn_words {names vals : List Str} {s : Stp} (h : s.ok names vals) (hn : ∀ z ∈ names, isNameS z = true) (hv : ∀ z ∈ vals, isNameS z = true) : stepIn s.words = s.p := by
  have hst := isStep_ok h hn hv
  cases s with
  | read x k n o =>
    obtain ⟨h1, h2, h3, h4, h5, h6, h7⟩ := h
    have := kind_sz h4
    simp [stepIn, Stp.words, spotP_spot (hn _ h5) h6 (by omega), chk]
    exact if_pos hst
  | write k n o v =>
    obtain ⟨h4, h5, h6, h7, h8⟩ := h
    have := kind_sz h4
    have hval := valIn_val (v := v) (by
      rcases h8 with ⟨i, rfl, hi⟩ | ⟨x, hx, rfl⟩
      · exact .inl ⟨i, rfl, hi⟩
      · exact .inr ⟨x, rfl, hv _ hx⟩)
    simp [stepIn, Stp.words, spotP_spot (hn _ h5) h6 (by omega), chk, hval]
    exact if_pos hst
  | copy m n o n' o' =>
    obtain ⟨h1, h2, h3, h4, h5, h6, h7⟩ := h
    simp [stepIn, Stp.words, spotP_spot (hn _ h2) h3 (by omega), spotP_spot (hn _ h5) h6 (by omega), chk, cntP_num (i := m) (by omega) (by omega)]
    exact if_pos hst
  | blank m n o =>
    obtain ⟨h1, h2, h3, h4⟩ := h
    simp [stepIn, Stp.words, spotP_spot (hn _ h2) h3 (by omega), chk, cntP_num (i := m) (by omega) (by omega)]
    exact if_pos hst
  | tell x =>
    simp [stepIn, Stp.words, chk]
    exact if_pos hst
theorem nq_places : ¬ (Str.ofString "pointer" = Str.ofString "place") ∧ ¬ (Str.ofString "read" = Str.ofString "place") ∧ ¬ (Str.ofString "write" = Str.ofString "place") ∧ ¬ (Str.ofString "copy" = Str.ofString "place") ∧ ¬ (Str.ofString "blank" = Str.ofString "place") ∧ ¬ (Str.ofString "tell" = Str.ofString "place") := by decide +kernel
theorem nq_pointers : ¬ (Str.ofString "read" = Str.ofString "pointer") ∧ ¬ (Str.ofString "write" = Str.ofString "pointer") ∧ ¬ (Str.ofString "copy" = Str.ofString "pointer") ∧ ¬ (Str.ofString "blank" = Str.ofString "pointer") ∧ ¬ (Str.ofString "tell" = Str.ofString "pointer") := by decide +kernel
theorem ent_pl {q : Str × Str} (h1 : isNameS q.1 = true) (h2 : isKindS q.2 = true) : entW (plWd q) = .tup [.int 0, placeP q] := by
  simp [entW, plWd, h1, h2, placeP]
theorem ent_pt {z : Str} (h1 : isNameS z = true) : entW (ptWd z) = .tup [.int 1, .str z] := by
  simp [entW, ptWd, h1, nq_places]
theorem ent_st {names vals : List Str} {s : Stp} (h : s.ok names vals) (hn : ∀ z ∈ names, isNameS z = true) (hv : ∀ z ∈ vals, isNameS z = true) : entW s.words = .tup [.int 2, s.p] := by
  have e := stepIn_words h hn hv
  have hq := nq_places
  have hq2 := nq_pointers
  have e2 : ∃ ps, s.p = .tup ps := by cases s <;> exact ⟨_, rfl⟩
  obtain ⟨ps, e2⟩ := e2
  have h1 : ¬ s.words.headD Str.empty = "place" := by cases s <;> simp [Stp.words, hq]
  have h2 : ¬ s.words.headD Str.empty = "pointer" := by cases s <;> simp [Stp.words, hq2]
  unfold entW
  rw [if_neg h1, if_neg h2, e, e2]
end Z
namespace Kw
open PySem PySem.Spec PyProof.Rows L2 Z
section
variable {S : Store}
theorem entry_in_eq {z : Str} (h : St z) : f_entry_in [.p (.str z)] S = .ok (.p (entP z)) S := by
  apply Rs.sx.eq
  unfold f_entry_in b_entry_in
  rw [w_runB]
  obtain ⟨hw, hl, hne⟩ := split_st (s := 32) (by decide) h
  have hsp := split_P (s := 32) (by decide) h
  rw [← spc_eq] at hw hl hne hsp
  unfold entP
  generalize PySem.Txt.split z spc = ws at *
  refine set_by (fun d S1 => S = S1 ∧ d = .p (.lst (ws.map .str))) (fun R hR => ?_) ?_
  · simp [List.replicate, litSp, hsp]; exact hR _ _ ⟨rfl, rfl⟩
  rintro _ _ ⟨rfl, rfl⟩
  obtain ⟨w, r, rfl⟩ : ∃ w r, ws = w :: r := by
    cases ws with
    | nil => exact absurd rfl hne
    | cons w r => exact ⟨w, r, rfl⟩
  have sw := hw w (by simp)
  have hsi := step_in_eq (S := S) hw
  have nm : ∀ y : Str, St y → ∀ S, f_is_name [.p (.str y)] S = .ok (.p (.bl (isNameS y))) S := fun y hy S => is_name_eq (n := 0) hy.sm
  have kd : ∀ y : Str, St y → ∀ S, f_is_kind [.p (.str y)] S = .ok (.p (.bl (isKindS y))) S := fun y hy S => is_kind_eq (n := 0) hy.sm
  by_cases h1 : w = "place"
  · subst h1
    refine step_if (b := true) (S' := S) (tok (by simp [List.replicate, ixP, opEq_w okPlace okPlace])) (fun _ => ?_) (fun h => nomatch h)
    match r, hw with
    | [], _ => simp [List.replicate, entW]
    | [a], _ => simp [List.replicate, entW]
    | [a, b], hw =>
      have ha := hw a (by simp)
      have hb := hw b (by simp)
      simp [List.replicate, entW, ixP, nm a ha, kd b hb]
      cases isNameS a <;> cases isKindS b <;> simp
    | a :: b :: c :: t, _ =>
      have : ¬ ((t.length : Int) + 1 + 1 + 1 + 1 = 3) := by omega
      simp [List.replicate, entW, this]
  refine step_if (b := false) (S' := S) (tok (by simp [List.replicate, ixP, opEq_w sw.2 okPlace, h1])) (fun h => nomatch h) fun _ => ?_
  by_cases h2 : w = "pointer"
  · subst h2
    refine step_if (b := true) (S' := S) (tok (by simp [List.replicate, ixP, opEq_w okPointer okPointer])) (fun _ => ?_) (fun h => nomatch h)
    match r, hw with
    | [], _ => simp [List.replicate, entW, h1]
    | [a], hw =>
      have ha := hw a (by simp)
      simp [List.replicate, entW, h1, ixP, nm a ha]
    | a :: b :: t, _ =>
      have : ¬ ((t.length : Int) + 1 + 1 + 1 = 2) := by omega
      simp [List.replicate, entW, h1, this]
  refine step_if (b := false) (S' := S) (tok (by simp [List.replicate, ixP, opEq_w sw.2 okPointer, h2])) (fun h => nomatch h) fun _ => ?_
  simp at hsi
  simp [List.replicate, hsi, entW, h1, h2]
  rcases stepIn_cases (w :: r) with e | ⟨ps, e, _⟩
  · rw [e]; simp [opIsN]
  · rw [e]; simp [opIsN]
end
end Kw

namespace Z
open PySem PySem.Spec PyProof.Rows L2
def txt0 : Txt := ⟨[], [], []⟩
theorem txt0_ok : txt0.ok := ⟨by decide, by decide, by decide, by simp [Txt.names, txt0], by simp [Txt.names, txt0], by simp [txt0], by decide, trivial⟩
/-- the first i entries of a text -/
def Txt.pre (t : Txt) (i : Nat) : Txt := ⟨t.places.take i, t.ptrs.take (i - t.places.length), t.steps.take (i - t.places.length - t.ptrs.length)⟩
theorem okSteps_take {names : List Str} : ∀ {vals : List Str} {ss : List Stp} (n : Nat), okSteps names vals ss → okSteps names vals (ss.take n)
  | _, _, 0, _ => by simp [okSteps]
  | _, [], _ + 1, _ => trivial
  | _, _ :: _, n + 1, h => ⟨h.1, okSteps_take n h.2⟩
theorem pre_ok {t : Txt} (h : t.ok) (i : Nat) : (t.pre i).ok := by
  have hsub : (t.pre i).names.Sublist t.names := by
    unfold Txt.names Txt.pre
    exact (List.take_sublist _ _).map _ |>.append (List.take_sublist _ _)
  refine ⟨?_, ?_, ?_, ?_, ?_, ?_, ?_, ?_⟩
  · have := h.pl; simp [Txt.pre]; omega
  · have := h.pt; simp [Txt.pre]; omega
  · exact Nat.le_trans hsub.length_le h.nl
  · exact fun z hz => h.nm z (hsub.subset hz)
  · exact h.nd.sublist hsub
  · exact fun q hq => h.kd q (List.mem_of_mem_take hq)
  · have := h.sl; simp [Txt.pre]; omega
  · by_cases hi : i ≤ t.places.length + t.ptrs.length
    · have : i - t.places.length - t.ptrs.length = 0 := by omega
      simp [Txt.pre, this, okSteps]
    · have e : (t.pre i).names = t.names := by
        unfold Txt.names Txt.pre
        rw [List.take_of_length_le (by omega), List.take_of_length_le (by omega)]
      rw [e]
      exact okSteps_take _ h.st
theorem pre_all {t : Txt} {i : Nat} (h : t.places.length + t.ptrs.length + t.steps.length ≤ i) : t.pre i = t := by
  unfold Txt.pre
  rw [List.take_of_length_le (by omega), List.take_of_length_le (by omega), List.take_of_length_le (by omega)]
theorem pre_0 {t : Txt} : t.pre 0 = txt0 := by simp [Txt.pre, txt0]
/-- the k-th part -/
def Txt.part (t : Txt) : Nat → List P
  | 0 => t.places.map placeP
  | 1 => t.ptrs.map .str
  | _ => t.steps.map Stp.p
def phaseAt (t : Txt) (i : Nat) : Nat := if i < t.places.length then 0 else if i < t.places.length + t.ptrs.length then 1 else 2
theorem line_at {t : Txt} (h : t.ok) {i : Nat} {l : Str} (hl : t.lines[i]? = some l) : St l ∧ ∃ p, entP l = .tup [.int (phaseAt t i : Nat), p] ∧ ∀ k < 3, (t.pre (i + 1)).part k = if k = phaseAt t i then (t.pre i).part k ++ [p] else (t.pre i).part k := by
  have hm := List.mem_of_getElem? hl
  obtain ⟨ws, rfl, hw, hwl, hne⟩ := txt_lines h l hm
  have hst : St (PySem.Txt.join spc ws) := ⟨Nat.le_trans (line_le hw hwl) (by omega), by
    refine join_ch (by decide +kernel) fun w hx => ?_
    have hlm : 10 ∉ cs w := (hw w hx).l
    exact txt_ch h hm ws rfl hw hne w hx⟩
  refine ⟨hst, ?_⟩
  unfold entP
  unfold Txt.lines at hl
  by_cases h1 : i < t.places.length
  · rw [List.append_assoc, List.getElem?_append_left (by simpa using h1), List.getElem?_map] at hl
    cases hq : t.places[i]? with
    | none => rw [hq] at hl; cases hl
    | some q =>
      rw [hq] at hl
      simp only [Option.map_some, Option.some.injEq] at hl
      have hqm := List.mem_of_getElem? hq
      have n1 : isNameS q.1 = true := h.nm _ (List.mem_append_left _ (List.mem_map_of_mem hqm))
      have n2 := h.kd q hqm
      have hsp := words_back (ws := plWd q) (plW_ok n1 n2) (by simp [plWd])
      rw [← hl, show plL q = PySem.Txt.join spc (plWd q) from rfl, hsp, ent_pl n1 n2]
      have hp : phaseAt t i = 0 := by unfold phaseAt; rw [if_pos h1]
      refine ⟨_, by rw [hp]; rfl, fun k hk => ?_⟩
      rw [hp]
      have e1 : i + 1 - t.places.length = 0 := by omega
      have e2 : i - t.places.length = 0 := by omega
      obtain rfl | rfl | rfl : k = 0 ∨ k = 1 ∨ k = 2 := by omega
      · simp [Txt.part, Txt.pre, List.take_succ, hq]
      · simp [Txt.part, Txt.pre, e1, e2]
      · simp [Txt.part, Txt.pre, e1, e2]
  by_cases h2 : i < t.places.length + t.ptrs.length
  · rw [List.append_assoc, List.getElem?_append_right (by simp; omega), List.getElem?_append_left (by simp; omega), List.getElem?_map, List.length_map] at hl
    cases hq : t.ptrs[i - t.places.length]? with
    | none => rw [hq] at hl; cases hl
    | some q =>
      rw [hq] at hl
      simp only [Option.map_some, Option.some.injEq] at hl
      have hqm := List.mem_of_getElem? hq
      have n1 : isNameS q = true := h.nm _ (List.mem_append_right _ hqm)
      have hsp := words_back (ws := ptWd q) (ptW_ok n1) (by simp [ptWd])
      rw [← hl, show ptL q = PySem.Txt.join spc (ptWd q) from rfl, hsp, ent_pt n1]
      have hp : phaseAt t i = 1 := by unfold phaseAt; rw [if_neg h1, if_pos h2]
      refine ⟨_, by rw [hp]; rfl, fun k hk => ?_⟩
      rw [hp]
      have e1 : i + 1 - t.places.length = (i - t.places.length) + 1 := by omega
      have e2 : (i - t.places.length) + 1 - t.ptrs.length = 0 := by omega
      have e3 : i - t.places.length - t.ptrs.length = 0 := by omega
      obtain rfl | rfl | rfl : k = 0 ∨ k = 1 ∨ k = 2 := by omega
      · simp [Txt.part, Txt.pre]
        omega
      · simp [Txt.part, Txt.pre, e1, List.take_succ, hq]
      · simp [Txt.part, Txt.pre, e1, e2, e3]
  · rw [List.getElem?_append_right (by simp; omega), List.getElem?_map, List.length_append, List.length_map, List.length_map] at hl
    cases hq : t.steps[i - (t.places.length + t.ptrs.length)]? with
    | none => rw [hq] at hl; cases hl
    | some s =>
      rw [hq] at hl
      simp only [Option.map_some, Option.some.injEq] at hl
      have hqm := List.mem_of_getElem? hq
      obtain ⟨vs, a1, a2⟩ := okSteps_each h.st (by simp) s hqm
      have hsp := words_back (ws := s.words) (words_ok a1 h.nm a2) (by cases s <;> simp [Stp.words])
      rw [← hl, show s.line = PySem.Txt.join spc s.words from rfl, hsp, ent_st a1 h.nm a2]
      have hp : phaseAt t i = 2 := by unfold phaseAt; rw [if_neg h1, if_neg h2]
      refine ⟨_, by rw [hp]; rfl, fun k hk => ?_⟩
      rw [hp]
      have e1 : i + 1 - t.places.length - t.ptrs.length = (i - t.places.length - t.ptrs.length) + 1 := by omega
      have e2 : i - (t.places.length + t.ptrs.length) = i - t.places.length - t.ptrs.length := by omega
      rw [e2] at hq
      obtain rfl | rfl | rfl : k = 0 ∨ k = 1 ∨ k = 2 := by omega
      · simp [Txt.part, Txt.pre]
        omega
      · simp [Txt.part, Txt.pre]
        omega
      · simp [Txt.part, Txt.pre, e1, List.take_succ, hq]
where
  plW_ok {q : Str × Str} (h1 : isNameS q.1 = true) (h2 : isKindS q.2 = true) : ∀ w ∈ plWd q, Wd w := fun w hw => by
    simp only [plWd, List.mem_cons, List.not_mem_nil, or_false] at hw
    rcases hw with rfl | rfl | rfl
    · exact wd_lit (by decide +kernel)
    · exact wd_name h1
    · exact wd_kind h2
  ptW_ok {z : Str} (h1 : isNameS z = true) : ∀ w ∈ ptWd z, Wd w := fun w hw => by
    simp only [ptWd, List.mem_cons, List.not_mem_nil, or_false] at hw
    rcases hw with rfl | rfl
    · exact wd_lit (by decide +kernel)
    · exact wd_name h1
  txt_ch {t : Txt} (h : t.ok) {l : Str} (hm : l ∈ t.lines) (ws : List Str) (e : l = PySem.Txt.join spc ws) (hw : ∀ w ∈ ws, Wd w) (hne : ws ≠ []) : ∀ w ∈ ws, chOk w = true := by
    have hb := words_back hw hne
    rw [← e] at hb
    unfold Txt.lines at hm
    simp only [List.mem_append, List.mem_map] at hm
    have fin : ∀ vs : List Str, l = PySem.Txt.join spc vs → (∀ w ∈ vs, Wd w) → vs ≠ [] → vs = ws := fun vs e2 a b => by
      have := words_back a b
      rw [← e2, hb] at this
      exact this.symm
    rcases hm with (⟨q, hq, hl⟩ | ⟨z, hz, hl⟩) | ⟨s, hs, hl⟩
    · have n1 : isNameS q.1 = true := h.nm _ (List.mem_append_left _ (List.mem_map_of_mem hq))
      have n2 := h.kd q hq
      rw [← fin _ hl.symm (plW_ok n1 n2) (by simp [plWd])]
      intro w hw
      simp only [plWd, List.mem_cons, List.not_mem_nil, or_false] at hw
      rcases hw with rfl | rfl | rfl
      · decide +kernel
      · exact name_ch n1
      · exact kind_ch n2
    · have n1 : isNameS z = true := h.nm _ (List.mem_append_right _ hz)
      rw [← fin _ hl.symm (ptW_ok n1) (by simp [ptWd])]
      intro w hw
      simp only [ptWd, List.mem_cons, List.not_mem_nil, or_false] at hw
      rcases hw with rfl | rfl
      · decide +kernel
      · exact name_ch n1
    · obtain ⟨vs, a1, a2⟩ := okSteps_each h.st (by simp) s hs
      rw [← fin _ hl.symm (words_ok a1 h.nm a2) (by cases s <;> simp [Stp.words])]
      exact words_ch a1 h.nm a2
  words_ch {names vals : List Str} {s : Stp} (h : s.ok names vals) (hn : ∀ z ∈ names, isNameS z = true) (hv : ∀ z ∈ vals, isNameS z = true) : ∀ w ∈ s.words, chOk w = true := by
    have hnum : ∀ i : Int, chOk (numS i) = true := fun i => chOk_of fun c hc => by have := num_signs c hc; omega
    have hsp : ∀ n o, isNameS n = true → chOk (spotS n o) = true := fun n o hn => chOk_append (chOk_append (name_ch hn) (by decide +kernel)) (hnum o)
    intro w hw
    cases s with
    | read x k n o =>
      obtain ⟨h1, h2, h3, h4, h5, h6, h7⟩ := h
      simp only [Stp.words, List.mem_cons, List.not_mem_nil, or_false] at hw
      rcases hw with rfl | rfl | rfl | rfl
      · decide +kernel
      · exact name_ch h1
      · exact kind_ch h4
      · exact hsp _ _ (hn _ h5)
    | write k n o v =>
      obtain ⟨h4, h5, h6, h7, h8⟩ := h
      simp only [Stp.words, List.mem_cons, List.not_mem_nil, or_false] at hw
      rcases hw with rfl | rfl | rfl | rfl
      · decide +kernel
      · exact kind_ch h4
      · exact hsp _ _ (hn _ h5)
      · rcases h8 with ⟨i, rfl, hi⟩ | ⟨x, hx, rfl⟩
        · exact hnum i
        · exact name_ch (hv _ hx)
    | copy m n o n' o' =>
      obtain ⟨h1, h2, h3, h4, h5, h6, h7⟩ := h
      simp only [Stp.words, List.mem_cons, List.not_mem_nil, or_false] at hw
      rcases hw with rfl | rfl | rfl | rfl
      · decide +kernel
      · exact hnum m
      · exact hsp _ _ (hn _ h2)
      · exact hsp _ _ (hn _ h5)
    | blank m n o =>
      obtain ⟨h1, h2, h3, h4⟩ := h
      simp only [Stp.words, List.mem_cons, List.not_mem_nil, or_false] at hw
      rcases hw with rfl | rfl | rfl
      · decide +kernel
      · exact hnum m
      · exact hsp _ _ (hn _ h2)
    | tell x =>
      simp only [Stp.words, List.mem_cons, List.not_mem_nil, or_false] at hw
      rcases hw with rfl | rfl
      · decide +kernel
      · exact name_ch (hv _ h)
theorem phase_mono (t : Txt) (i : Nat) : phaseAt t i ≤ phaseAt t (i + 1) ∧ phaseAt t i < 3 := by
  unfold phaseAt
  split <;> split <;> (try split) <;> (try split) <;> omega
theorem lines_length (t : Txt) : t.lines.length = t.places.length + t.ptrs.length + t.steps.length := by simp [Txt.lines]; omega
end Z

namespace Kw
open PySem PySem.Spec PyProof.Rows L2 Z
section
variable {S : Store} {sl : Slots}
theorem rok {r : Rs D} {d : D} {S : Store} (h : r.sx noE fun a S' => a = d ∧ S' = S) : r = .ok d S := h.eq
theorem make_txt {t : Txt} {n : Nat} {dfl : List Z.P} {ma : MA} {ds : List D} (hS : clSt S) (h : t.ok) (hn : ds.length = n) (hd : ds ++ dfl.map .p = [.p t.pl, .p t.pt, .p t.st]) (ha : ma sl S = .ok ds S) : eFz (eMake "Text" n dfl f_Text_init ma) sl S = .ok (.p (TxtP t)) S := by
  refine rok (fz_at hS fun E' R' h1 h2 => ?_)
  rw [w_make, ha, sx_ok]
  refine ⟨hn, ?_⟩
  rw [hd]
  have hS' : clSt (S ++ [.ins "Text" [] []]) := hS.app (by intro c hc; simp at hc; subst hc; simp [clCb])
  rw [Text_init_eq hS' h (by simp), sx_ok]
  refine ⟨rfl, ?_⟩
  rw [set_last]
  refine h2 _ _ (TxtP t) ?_ ⟨rfl, rfl⟩
  simp [fzD, mapO, TxtP]
def partC (ps : List Z.P) : Cell := .lst (ps.map .p)
def parts4 (n : Nat) (t : Txt) : Store := [partC (t.part 0), partC (t.part 1), partC (t.part 2), .lst [.ref n, .ref (n + 1), .ref (n + 2)]]
theorem parts_cl (hS : clSt S) (t : Txt) : clSt (S ++ parts4 S.length t) := hS.app (by
  have key : ∀ n (ps : List Z.P), clCb n (partC ps) = true := fun n ps => by simp [clCb, partC, clDb]
  intro c hc
  simp only [parts4, List.mem_cons, List.not_mem_nil, or_false] at hc
  rcases hc with rfl | rfl | rfl | rfl
  · exact key _ _
  · exact key _ _
  · exact key _ _
  · simp [clCb, clDb, parts4])
theorem view_part {ps : List Z.P} {v : Nat} (h : S[v]? = some (partC ps)) : view S (.ref v) = some (.lst ps) := by
  have := view_map (f := fun p : Z.P => p) h
  simpa using this
theorem pg0 {t : Txt} {n : Nat} (hn : n = S.length) : (S ++ parts4 n t)[n]? = some (partC (t.part 0)) := by subst hn; simp [parts4]
theorem pg1 {t : Txt} {n : Nat} (hn : n = S.length) : (S ++ parts4 n t)[n + 1]? = some (partC (t.part 1)) := by subst hn; simp [parts4]
theorem pg2 {t : Txt} {n : Nat} (hn : n = S.length) : (S ++ parts4 n t)[n + 2]? = some (partC (t.part 2)) := by subst hn; simp [parts4]
theorem pg3 {t : Txt} {n : Nat} (hn : n = S.length) : (S ++ parts4 n t)[n + 3]? = some (.lst [.ref n, .ref (n + 1), .ref (n + 2)]) := by subst hn; simp [parts4]
theorem part_len {t : Txt} (h : t.ok) (k : Nat) : (t.part k).length ≤ 12 := by
  have h1 := h.pl
  have h2 := h.pt
  have h3 := h.sl
  unfold Txt.part
  split <;> simp <;> omega
theorem note_st {t : Txt} (h : t.ok) : chOk t.note = true ∧ t.note.length ≤ 10000 := by
  constructor
  · exact join_ch (by decide +kernel) fun l hl => by
      obtain ⟨i, hi, e⟩ := List.mem_iff_getElem.mp hl
      exact (line_at h (i := i) (l := l) (by rw [List.getElem?_eq_getElem hi, e])).1.2
  · have h1 := len_join lf (by decide +kernel) t.lines
    have h2 := sum_le (txt_line_le h)
    have h3 := txt_line_n h
    have h4 : t.lines.length * 250 ≤ 17 * 250 := Nat.mul_le_mul_right _ h3
    unfold Txt.note
    omega
theorem lines_of_note {t : Txt} (h : t.ok) : (if t.note = Str.ofString "" then ([] : List Str) else PySem.Txt.split t.note lf) = t.lines := by
  by_cases hn : t.lines = []
  · have : t.note = Str.ofString "" := by
      unfold Txt.note
      rw [hn]
      decide +kernel
    rw [if_pos this, hn]
  · have hb := lines_back (ls := t.lines) (fun l hl => by
      obtain ⟨ws, rfl, hw, _, _⟩ := txt_lines h l hl
      exact line_nolf hw) hn
    rw [show PySem.Txt.join lf t.lines = t.note from rfl] at hb
    have : ¬ t.note = Str.ofString "" := by
      intro e
      have e2 : PySem.Txt.split t.note lf = [Str.ofString ""] := by rw [e]; decide +kernel
      rw [e2] at hb
      have hl : Str.ofString "" ∈ t.lines := by rw [← hb]; simp
      obtain ⟨ws, e3, hw, _, hne⟩ := txt_lines h _ hl
      have := words_back hw hne
      rw [← e3] at this
      have e4 : PySem.Txt.split (Str.ofString "") spc = [Str.ofString ""] := by decide +kernel
      rw [e4] at this
      have hi : ∃ i : Nat, t.lines[i]? = some (Str.ofString "") := by
        obtain ⟨i, hi, e⟩ := List.mem_iff_getElem.mp hl
        exact ⟨i, by rw [List.getElem?_eq_getElem hi, e]⟩
      obtain ⟨i, hi⟩ := hi
      obtain ⟨_, p, hp, _⟩ := line_at h hi
      have : entP (Str.ofString "") = .non := by unfold entP; rw [e4]; decide +kernel
      rw [this] at hp
      cases hp
    rw [if_neg this, hb]
theorem Text_read_eq {t : Txt} (hS : clSt S) (h : t.ok) : f_Text_read [.p (.glo "Text"), .p (.str t.note)] S = .ok (.p (TxtP t)) S := by
  apply Rs.sx.eq
  unfold f_Text_read b_Text_read
  obtain ⟨hc, hl⟩ := note_st h
  refine runZ_at hS fun F N T _ _ hT => ?_
  refine step_if (b := false) (S' := S) (tok (by simp [List.replicate])) (fun h => nomatch h) fun _ => ?_
  refine seq_by (fun sl S1 => S1 = S ++ parts4 S.length txt0 ∧ sl = [some (.p (.glo "Text")), some (.p (.str t.note)), some (.ref (S.length + 3)), some (.p (.int 0)), none, none, none, none, none, none]) (fun R hR => ?_) ?_
  · simp [List.replicate]
    exact hR _ _ ⟨by simp [parts4, partC, Txt.part, txt0], rfl⟩
  rintro _ _ ⟨rfl, rfl⟩
  refine set_by (fun d S1 => S ++ parts4 S.length txt0 = S1 ∧ d = .p (.lst (t.lines.map .str))) (fun R hR => ?_) ?_
  · have e := lines_of_note h
    simp [opNe_w hc okE]
    by_cases hn : t.note = Str.ofString ""
    · rw [if_pos hn] at e
      simp [hn]
      exact hR _ _ ⟨rfl, by rw [← e]; rfl⟩
    · rw [if_neg hn] at e
      have hs : splitP t.note [.str lf] = some (.lst ((PySem.Txt.split t.note lf).map .str)) := by
        simp only [splitP]
        rw [if_pos ⟨by decide +kernel, Nat.le_trans (show t.note.length + 2 ≤ 10002 by omega) (by decide)⟩]
      simp [hn, litLf, hs, e]
      exact hR _ _ ⟨rfl, rfl⟩
  rintro _ _ ⟨rfl, rfl⟩
  refine set_by (fun d S1 => S ++ parts4 S.length txt0 = S1 ∧ d = .p (TxtP txt0)) (fun R hR => ?_) ?_
  · have := make_txt (sl := [some (.p (.glo "Text")), some (.p (.str t.note)), some (.ref (S.length + 3)), some (.p (.int 0)), some (.p (.lst (t.lines.map .str))), none, none, none, none, none]) (t := txt0) (n := 0) (dfl := [.tup [], .tup [], .tup []]) (ma := aN) (ds := []) (parts_cl hS txt0) txt0_ok rfl rfl rfl
    unfold eFz at this ⊢
    rw [w_makeL (by rfl)]
    rw [List.set_cons_succ] at *
    simp only [List.set_cons_succ, List.set_cons_zero] at *
    rw [this, sx_ok]
    exact hR _ _ ⟨rfl, rfl⟩
  rintro _ _ ⟨rfl, rfl⟩
  refine seq_by (fun sl S1 => ∃ (ph : Z.P) (x y z : Option D), S1 = S ++ parts4 S.length t ∧ sl = [some (.p (.glo "Text")), some (.p (.str t.note)), some (.ref (S.length + 3)), some (.p ph), some (.p (.lst (t.lines.map .str))), some (.p (TxtP t)), x, y, z, none]) (fun R hR => ?_) ?_
  · simp
    refine loop_iR (fun i sl S1 => ∃ (ph : Nat) (x y z : Option D), ph ≤ phaseAt t i ∧ S1 = S ++ parts4 S.length (t.pre i) ∧ sl = [some (.p (.glo "Text")), some (.p (.str t.note)), some (.ref (S.length + 3)), some (.p (.int (ph : Int))), some (.p (.lst (t.lines.map .str))), some (.p (TxtP (t.pre i))), x, y, z, none]) ?_ ?_ ⟨0, none, none, none, Nat.zero_le _, by rw [pre_0], by rw [pre_0]; rfl⟩
    · rintro i q sl S1 hq ⟨ph, x, y, z, hph, rfl, rfl⟩
      obtain ⟨p, hp', rfl⟩ := enum_get hq
      obtain ⟨l, hl, rfl⟩ : ∃ l, t.lines[i]? = some l ∧ p = .str l := by
        rw [List.getElem?_map] at hp'
        cases hz : t.lines[i]? with
        | none => rw [hz] at hp'; cases hp'
        | some z => rw [hz] at hp'; cases hp'; exact ⟨z, rfl, rfl⟩
      obtain ⟨hst, p, he, hpart⟩ := line_at h hl
      obtain ⟨hm1, hm2⟩ := phase_mono t i
      have hpk := pre_ok h i
      have hpk1 := pre_ok h (i + 1)
      refine ⟨_, rfl, fun R' hR' => ?_⟩
      refine set_by (fun d S1 => S ++ parts4 S.length (t.pre i) = S1 ∧ d = .p (.tup [.int (phaseAt t i : Nat), p])) (fun R hR => ?_) ?_
      · simp [entry_in_eq hst, he]
        exact hR _ _ ⟨rfl, rfl⟩
      rintro _ _ ⟨rfl, rfl⟩
      refine step_if (b := false) (S' := S ++ parts4 S.length (t.pre i)) (tok ?_) (fun h => nomatch h) fun _ => ?_
      · simp [opIsN, ixP, opLt]; omega
      refine set_by (fun d S1 => S ++ parts4 S.length (t.pre i) = S1 ∧ d = .p (.int (phaseAt t i : Nat))) (fun R hR => ?_) ?_
      · simp [ixP]
        exact hR _ _ ⟨rfl, rfl⟩
      rintro _ _ ⟨rfl, rfl⟩
      have hnext : S ++ parts4 S.length (t.pre (i + 1)) = (S ++ parts4 S.length (t.pre i)).set (S.length + phaseAt t i) (partC ((t.pre i).part (phaseAt t i) ++ [p])) := by
        have p0 := hpart 0 (by omega)
        have p1 := hpart 1 (by omega)
        have p2 := hpart 2 (by omega)
        obtain hz | hz | hz : phaseAt t i = 0 ∨ phaseAt t i = 1 ∨ phaseAt t i = 2 := by omega
        all_goals
          rw [hz] at p0 p1 p2 ⊢
          simp at p0 p1 p2
          simp [parts4, p0, p1, p2]
      refine seq_by (fun sl S1 => S ++ parts4 S.length (t.pre (i + 1)) = S1 ∧ ∃ x y z, sl = [some (.p (.glo "Text")), some (.p (.str t.note)), some (.ref (S.length + 3)), some (.p (.int (phaseAt t i : Nat))), some (.p (.lst (t.lines.map .str))), some (.p (TxtP (t.pre i))), x, y, z, none]) (fun R hR => ?_) ?_
      · have hg3 := pg3 (S := S) (t := t.pre i) (n := S.length) rfl
        have hgk : (S ++ parts4 S.length (t.pre i))[S.length + phaseAt t i]? = some (partC ((t.pre i).part (phaseAt t i))) := by
          obtain hz | hz | hz : phaseAt t i = 0 ∨ phaseAt t i = 1 ∨ phaseAt t i = 2 := by omega
          · rw [hz]; exact pg0 rfl
          · rw [hz]; exact pg1 rfl
          · rw [hz]; exact pg2 rfl
        have hat : atI [D.ref S.length, .ref (S.length + 1), .ref (S.length + 2)] ((phaseAt t i : Nat) : Int) = some (.ref (S.length + phaseAt t i)) := by
          obtain hz | hz | hz : phaseAt t i = 0 ∨ phaseAt t i = 1 ∨ phaseAt t i = 2 := by omega
          · rw [hz]; exact atI_0
          · rw [hz]; exact atI_1
          · rw [hz]; exact atI_2
        have hln := part_len hpk (phaseAt t i)
        simp only [w_expr, w_lm, w_ix, w_v, List.set_cons_succ, List.set_cons_zero, List.getElem?_cons_succ, List.getElem?_cons_zero]
        rw [ix_lst hg3, hat, opt_some]
        simp [hgk, partC, ixP, fApp, sl_lt (show ((t.pre i).part (phaseAt t i)).length ≤ 1000 by omega)]
        refine hR _ _ ⟨?_, _, _, _, rfl⟩
        rw [hnext]
        simp [partC]
      rintro _ _ ⟨rfl, x, y, z, rfl⟩
      rw [w_seq]
      refine w_tryF ?_
      refine set_by (fun d S1 => S ++ parts4 S.length (t.pre (i + 1)) = S1 ∧ d = .p (TxtP (t.pre (i + 1)))) (fun R hR => ?_) ?_
      · have hg3 := pg3 (S := S) (t := t.pre (i + 1)) (n := S.length) rfl
        have v0 := view_part (pg0 (S := S) (t := t.pre (i + 1)) (n := S.length) rfl)
        have v1 := view_part (pg1 (S := S) (t := t.pre (i + 1)) (n := S.length) rfl)
        have v2 := view_part (pg2 (S := S) (t := t.pre (i + 1)) (n := S.length) rfl)
        unfold eFz
        rw [w_makeL (by rfl)]
        have := fun ma ha => make_txt (S := S ++ parts4 S.length (t.pre (i + 1))) (sl := [some (.p (.glo "Text")), some (.p (.str t.note)), some (.ref (S.length + 3)), some (.p (.int (phaseAt t i : Nat))), some (.p (.lst (t.lines.map .str))), some (.p (TxtP (t.pre i))), x, y, z, none]) (t := t.pre (i + 1)) (n := 3) (dfl := []) (ma := ma) (ds := [.p (t.pre (i + 1)).pl, .p (t.pre (i + 1)).pt, .p (t.pre (i + 1)).st]) (parts_cl hS _) hpk1 rfl rfl ha
        unfold eFz at this
        rw [this]
        · rw [sx_ok]; exact hR _ _ ⟨rfl, rfl⟩
        · have key : ∀ r : Rs (List D), ∀ ds S, (r.sx noE fun a S' => a = ds ∧ S' = S) → r = .ok ds S := fun r ds S h => by
            obtain ⟨a, S', e, rfl, rfl⟩ := h.ok
            exact e
          refine key _ _ _ ?_
          simp only [w_aC, w_aN, w_f, w_ix, w_v, w_k, List.set_cons_succ, List.set_cons_zero, List.getElem?_cons_succ, List.getElem?_cons_zero]
          rw [ix_lst hg3, atI_0, opt_some, views_cons, v0, opt_some, views_nil, tupleP_l, opt_some]
          rw [ix_lst hg3, atI_1, opt_some, views_cons, v1, opt_some, views_nil, tupleP_l, opt_some]
          rw [ix_lst hg3, atI_2, opt_some, views_cons, v2, opt_some, views_nil, tupleP_l, opt_some]
          exact ⟨rfl, rfl⟩
      rintro _ _ ⟨rfl, rfl⟩
      rw [w_nil, w_nil]
      exact hR' _ _ ⟨phaseAt t i, _, _, _, hm1, rfl, rfl⟩
    · rintro sl S1 ⟨ph, x, y, z, _, rfl, rfl⟩
      have e : (enumP (t.lines.map P.str)).length = t.places.length + t.ptrs.length + t.steps.length := by rw [enum_len, List.length_map, lines_length]
      rw [e, pre_all (Nat.le_refl _)]
      exact hR _ _ ⟨_, _, _, _, rfl, rfl⟩
  rintro _ _ ⟨ph, x, y, z, rfl, rfl⟩
  simp
  exact hT _ _ _ rfl ⟨rfl, rfl⟩
theorem read_text_eq {t : Txt} (hS : clSt S) (h : t.ok) : f_read_text [.p (.str t.note)] S = .ok (.p (TxtP t)) S := by
  apply Rs.sx.eq
  unfold f_read_text b_read_text
  rw [w_runB]
  simp [List.replicate, Text_read_eq hS h]
end
end Kw

namespace Z
open PySem PySem.Spec PyProof.Rows L2
mutual
theorem eqv_refl : ∀ (n : Nat) (p : P), fin n p = true → eqv p p = true
  | n, .non, _ => by simp [eqv]
  | n, .bl b, _ => by simp [eqv]
  | n, .int i, _ => by simp [eqv]
  | n, .str z, _ => by simp [eqv]
  | n + 1, .lst ps, h => by
    simp only [fin, List.all_eq_true] at h
    simp only [eqv]
    exact eqv_reflAll n ps h
  | n + 1, .tup ps, h => by
    simp only [fin, List.all_eq_true] at h
    simp only [eqv]
    exact eqv_reflAll n ps h
  | 0, .lst _, h => by simp [fin] at h
  | 0, .tup _, h => by simp [fin] at h
  | n, .dic _ _ _, h => by cases n <;> simp [fin] at h
  | n, .ins _ _ _, h => by cases n <;> simp [fin] at h
  | n, .glo _, h => by cases n <;> simp [fin] at h
  | n, .ty _, h => by cases n <;> simp [fin] at h
  | n, .scr _, h => by cases n <;> simp [fin] at h
theorem eqv_reflAll : ∀ (n : Nat) (ps : List P), (∀ p ∈ ps, fin n p = true) → eqvAll ps ps = true
  | n, [], _ => by simp [eqvAll]
  | n, p :: ps, h => by
    simp only [eqvAll, Bool.and_eq_true]
    exact ⟨eqv_refl n p (h p (by simp)), eqv_reflAll n ps fun q hq => h q (List.mem_cons_of_mem _ hq)⟩
end
theorem opEq_self {p : P} (h : fin dpt p = true) : opEq p p = some (.bl true) := by rw [opEq_ok h h, eqv_refl dpt p h]
theorem opNe_self {p : P} (h : fin dpt p = true) : opNe p p = some (.bl false) := by rw [opNe_ok h h, eqv_refl dpt p h]; rfl
theorem fin_up : ∀ (n : Nat) (p : P), fin n p = true → ∀ m, n ≤ m → fin m p = true := by
  intro n
  induction n with
  | zero =>
    intro p h m _
    cases p <;> first | (simp [fin] at h; done) | (cases m <;> simpa [fin] using h)
  | succ n ih =>
    intro p h m hm
    obtain ⟨k, rfl⟩ : ∃ k, m = k + 1 := ⟨m - 1, by omega⟩
    cases p <;> first | (simp [fin] at h; done) | skip
    all_goals first
      | rfl
      | (simpa [fin] using h)
      | (simp only [fin, List.all_eq_true] at h ⊢; exact fun x hx => ih x (h x hx) k (by omega))
theorem sq_fin {n : Nat} {p : P} (h : sq n p = true) (hn : n ≤ 24 := by decide) : fin dpt p = true := fin_up n p (sm_fin n p (sq_sm n p h)) dpt hn
theorem sq_pl {t : Txt} (h : t.ok) : sq 2 t.pl = true := sq_tup (n := 1) (fun x hx => by
  obtain ⟨q, hq, rfl⟩ := List.mem_map.mp hx
  refine sq_tup (n := 0) (fun y hy => ?_) (by simp)
  simp only [List.mem_cons, List.not_mem_nil, or_false] at hy
  rcases hy with rfl | rfl
  · exact sq_name (h.nm _ (List.mem_append_left _ (List.mem_map_of_mem hq)))
  · exact sq_kind (h.kd q hq)) (by have := h.pl; simp; omega)
theorem sq_pt {t : Txt} (h : t.ok) : sq 1 t.pt = true := sq_tup (n := 0) (fun x hx => by
  obtain ⟨q, hq, rfl⟩ := List.mem_map.mp hx
  exact sq_name (h.nm _ (List.mem_append_right _ hq))) (by have := h.pt; simp; omega)
theorem sq_st {t : Txt} (h : t.ok) : sq 2 t.st = true := sq_tup (n := 1) (fun x hx => by
  obtain ⟨s, hs, rfl⟩ := List.mem_map.mp hx
  obtain ⟨w, ps, e, h1, h2, _⟩ := h.each s hs
  rw [e]
  exact sq_tup (n := 0) h1 (by simp; omega)) (by have := h.sl; simp; omega)
end Z
namespace Kw
open PySem PySem.Spec PyProof.Rows L2 Z
section
variable {S L : Store} {n : Nat} {E : Xc → Store → Prop} {Q : D → Store → Prop}
theorem pure_app {S : Store} {g m : Int} (h : pureSt S) : pureSt (S ++ [bagC g m]) := by
  intro c hc
  rcases List.mem_append.mp hc with hc | hc
  · exact h c hc
  · simp at hc; subst hc; rfl
theorem Text_eq_self {t : Txt} (h : t.ok) : f_Text_eq [.p (TxtP t), .p (TxtP t)] S = .ok (.p (.bl true)) S := by
  apply Rs.sx.eq
  unfold f_Text_eq b_Text_eq
  rw [w_runB]
  have hi : isiO isT isC [TxtP t, .glo "Text"] = some (.bl true) := by kernel_rfl
  simp [fld_pl, fld_pt, fld_st, hi, opEq_self (sq_fin (sq_pl h)), opEq_self (sq_fin (sq_pt h)), opEq_self (sq_fin (sq_st h))]
theorem eqG_self {t : Txt} (h : t.ok) {neg : Bool} : eqG "Text" f_Text_eq neg (.p (TxtP t)) (.p (TxtP t)) S = .ok (.p (.bl (!neg))) S := by
  unfold eqG
  simp only [TxtP, insOf, and_self, if_true]
  have := Text_eq_self (S := S) h
  simp only [TxtP] at this
  rw [this]
  cases neg <;> rfl
def two : Txt := ⟨[("s", "i1"), ("t9", "int4")], ["p", "q"], []⟩
theorem two_ok : two.ok := by
  refine ⟨by decide, by decide, by decide, ?_, ?_, ?_, by decide, trivial⟩
  · decide +kernel
  · decide +kernel
  · decide +kernel
theorem two_note : two.note = "place s i1\nplace t9 int4\npointer p\npointer q" := by decide +kernel
theorem two_pl : two.pl = .tup [.tup [.str "s", .str "i1"], .tup [.str "t9", .str "int4"]] := rfl
theorem two_pt : two.pt = .tup [.str "p", .str "q"] := rfl
theorem two_st : two.st = .tup [] := rfl
theorem txt0_note : txt0.note = Str.ofString "" := by decide +kernel
theorem lok {r : Rs (List D)} {ds : List D} {S : Store} (h : r.sx noE fun a S' => a = ds ∧ S' = S) : r = .ok ds S := by
  obtain ⟨a, S', e, rfl, rfl⟩ := h.ok
  exact e
theorem law_true (ns : List Int) (hn : ns.length ≤ 63) : ∃ S, f_law [.p (.scr ns)] [] = .ok (.p (.bl true)) S := by
  have main : (f_law [.p (.scr ns)] []).sx noE fun d _ => d = .p (.bl true) := by
    unfold f_law b_law
    refine runB_by fun F N _ _ => ?_
    refine seq_by (fun sl S1 => pureSt S1 ∧ ∃ a1 a2 a3 a4 a5 a6 a7 a8 a9 a10 a11, sl = [some (.p (.scr ns)), a1, a2, a3, a4, a5, a6, a7, a8, a9, a10, a11]) ?_ ?_
    · intro R hR
      simp [List.replicate]
      refine ⟨by split <;> split <;> omega, ?_⟩
      refine loop_rR (fun j sl S1 => pureSt S1 ∧ ∃ a1 a2 a3 a4 a5 a6 a7 a8 a9 a10 a11, sl = [some (.p (.scr ns)), a1, a2, a3, a4, a5, a6, a7, a8, a9, a10, a11]) ?_ (fun sl S1 h => hR _ _ h) ⟨(fun c hc => by simp at hc), _, _, _, _, _, _, _, _, _, _, _, rfl⟩
      rintro j sl S hj ⟨hp, a1, a2, a3, a4, a5, a6, a7, a8, a9, a10, a11, rfl⟩
      have hj6 : j < 64 := by
        revert hj
        split <;> split <;> omega
      refine ⟨_, rfl, fun R hR => ?_⟩
      refine set_by (fun d S1 => ∃ g m : Int, 0 ≤ g ∧ 0 ≤ m ∧ m < 2147483648 ∧ d = .ref S.length ∧ S1 = S ++ [bagC g m]) ?_ ?_
      · intro R hR
        simp
        exact bag_sat (by omega) (by omega) fun g m h1 h2 h3 => hR _ _ ⟨g, m, h1, h2, h3, rfl, rfl⟩
      rintro _ _ ⟨g, m, hg, hm, hm', rfl, rfl⟩
      have hb : Bag (S ++ [bagC g m]) S.length := ⟨g, m, by simp, hg, hm, hm'⟩
      have hp1 := pure_app (g := g) (m := m) hp
      generalize S ++ [bagC g m] = S0 at hb hp1
      generalize S.length = n at hb
      rw [w_seq]
      simp
      refine loop_rR (fun i sl S1 => Upd n S0 S1 ∧ ∃ a3 a4 a5 a6 a7 a8 a9 a10 a11, sl = [some (.p (.scr ns)), some (.p (.int (j : Int))), some (.ref n), a3, a4, a5, a6, a7, a8, a9, a10, a11]) ?_ ?_ ⟨.refl hb, _, _, _, _, _, _, _, _, _, rfl⟩
      · rintro i sl S1 hi ⟨u1, a3, a4, a5, a6, a7, a8, a9, a10, a11, rfl⟩
        refine ⟨_, rfl, fun R hR => ?_⟩
        refine seq_by (fun sl S2 => ∃ t : Txt, t.ok ∧ Upd n S0 S2 ∧ ∃ a3 a7 a8 a9 a10 a11, sl = [some (.p (.scr ns)), some (.p (.int (j : Int))), some (.ref n), a3, some (.p t.pl), some (.p t.pt), some (.p t.st), a7, a8, a9, a10, a11]) ?_ ?_
        · intro R hR
          simp
          refine drawn_sat (most := 12) (u1.bag hb) (u1.pure hp1) (by omega) (by omega) (by omega) (by omega) fun t S2 ht _ _ _ _ u2 => ?_
          simp [effT, effsC, effsN]
          exact hR _ _ ⟨t, ht, u1.trans u2, _, _, _, _, _, _, rfl⟩
        rintro _ S2 ⟨t, ht, u2, a3, a7, a8, a9, a10, a11, rfl⟩
        have hS := (u2.pure hp1).clSt
        refine set_by (fun d S3 => S2 = S3 ∧ d = .p (TxtP t)) ?_ ?_
        · intro R hR
          rw [make_txt (t := t) (n := 3) (dfl := []) (ds := [.p t.pl, .p t.pt, .p t.st]) hS ht rfl rfl (lok (by simp)), sx_ok]
          exact hR _ _ ⟨rfl, rfl⟩
        rintro _ _ ⟨rfl, rfl⟩
        refine set_by (fun d S3 => S2 = S3 ∧ d = .p (.str t.note)) ?_ ?_
        · intro R hR
          simp [note_eq ht]
          exact hR _ _ ⟨rfl, rfl⟩
        rintro _ _ ⟨rfl, rfl⟩
        have hnote := note_st ht
        refine step_if (b := false) (S' := S2) (tok ?_) (fun h => nomatch h) fun _ => ?_
        · simp [write_text_eq hS ht, opNe_w hnote.1 hnote.1]
        refine set_by (fun d S3 => S2 = S3 ∧ d = .p (.lst [TxtP t, TxtP t, TxtP t])) ?_ ?_
        · intro R hR
          simp [write_text_eq hS ht, read_text_eq hS ht, Text_read_eq hS ht]
          exact hR _ _ ⟨rfl, rfl⟩
        rintro _ _ ⟨rfl, rfl⟩
        refine step_if (b := false) (S' := S2) (tok ?_) (fun h => nomatch h) fun _ => ?_
        · simp [wipeS, eqG_self ht, fld_st, opEq_self (sq_fin (sq_st ht)), allP, boolsOf]
        have hpp : fin dpt (.tup [t.pl, t.pt]) = true := sq_fin (n := 3) (sq_tup (n := 2) (fun x hx => by
          simp only [List.mem_cons, List.not_mem_nil, or_false] at hx
          rcases hx with rfl | rfl
          · exact sq_pl ht
          · exact sq_mono (sq_pt ht)) (by simp))
        refine step_if (b := false) (S' := S2) (tok ?_) (fun h => nomatch h) fun _ => ?_
        · simp [wipeS, fld_pl, fld_pt, opEq_self hpp, allP, boolsOf]
        rw [w_nil]
        exact hR _ _ ⟨u2, _, _, _, _, _, _, _, _, _, rfl⟩
      · rintro sl S1 ⟨u1, a3, a4, a5, a6, a7, a8, a9, a10, a11, rfl⟩
        try simp
        exact hR _ _ ⟨u1.pure hp1, _, _, _, _, _, _, _, _, _, _, _, rfl⟩
    rintro _ S1 ⟨hp, a1, a2, a3, a4, a5, a6, a7, a8, a9, a10, a11, rfl⟩
    have hS := hp.clSt
    refine set_by (fun d S3 => S1 = S3 ∧ d = .p (TxtP two)) ?_ ?_
    · intro R hR
      rw [make_txt (t := two) (n := 3) (dfl := []) (ds := [.p two.pl, .p two.pt, .p two.st]) hS two_ok rfl rfl (lok (by simp [two_pl, two_pt, two_st])), sx_ok]
      exact hR _ _ ⟨rfl, rfl⟩
    rintro _ _ ⟨rfl, rfl⟩
    refine set_by (fun d S3 => S1 = S3 ∧ d = .p (.str two.note)) ?_ ?_
    · intro R hR
      simp
      exact hR _ _ ⟨rfl, by rw [two_note]⟩
    rintro _ _ ⟨rfl, rfl⟩
    have hnote := note_st two_ok
    refine step_if (b := false) (S' := S1) (tok ?_) (fun h => nomatch h) fun _ => ?_
    · simp [write_text_eq hS two_ok, opNe_w hnote.1 hnote.1, tEqX, read_text_eq hS two_ok, eqG_self two_ok]
    have hmk : eFz (eMake "Text" 0 [.tup [], .tup [], .tup []] f_Text_init aN) = fun sl S => eFz (eMake "Text" 0 [.tup [], .tup [], .tup []] f_Text_init aN) sl S := rfl
    have hm0 : ∀ sl, eFz (eMake "Text" 0 [.tup [], .tup [], .tup []] f_Text_init aN) sl S1 = .ok (.p (TxtP txt0)) S1 := fun sl =>
      make_txt (t := txt0) (n := 0) (dfl := [.tup [], .tup [], .tup []]) (ds := []) hS txt0_ok rfl rfl rfl
    have hw0 := write_text_eq hS txt0_ok
    have hr0 := read_text_eq hS txt0_ok
    have hR0 := Text_read_eq hS txt0_ok
    rw [txt0_note] at hw0 hr0 hR0
    simp [hm0, hw0, hr0, hR0, eqG_self txt0_ok]
    rw [opEq_w okE okE]
    simp
  obtain ⟨d, S, e, rfl⟩ := main.ok
  exact ⟨S, e⟩
end
end Kw

namespace Kw
open PySem PySem.Spec PyProof.Rows L2 Z
def d_consists_of : He5.DefA := ⟨fun K => (He.ga K "consists_of"), "consists_of", "consists_of", defArgs s_consists_of, defBody s_consists_of, defScope s_consists_of, [], []⟩
def d_is_name : He5.DefA := ⟨fun K => (He.ga K "is_name"), "is_name", "is_name", defArgs s_is_name, defBody s_is_name, defScope s_is_name, [], []⟩
def d_check_pointers : He5.DefA := ⟨fun K => (He.ga K "check_pointers"), "check_pointers", "check_pointers", defArgs s_check_pointers, defBody s_check_pointers, defScope s_check_pointers, [], []⟩
def d_Text_eq : He5.DefA := ⟨fun K => (He.ma K (He.ga K "Text") "__eq__"), "__eq__", "Text.__eq__", defArgs s_Text_eq, defBody s_Text_eq, defScope s_Text_eq, [], []⟩
def d_value_made : He5.DefA := ⟨fun K => (He.ga K "value_made"), "value_made", "value_made", defArgs s_value_made, defBody s_value_made, defScope s_value_made, [], []⟩
def d_value_used : He5.DefA := ⟨fun K => (He.ga K "value_used"), "value_used", "value_used", defArgs s_value_used, defBody s_value_used, defScope s_value_used, [], []⟩
def d_is_kind : He5.DefA := ⟨fun K => (He.ga K "is_kind"), "is_kind", "is_kind", defArgs s_is_kind, defBody s_is_kind, defScope s_is_kind, [], []⟩
def d_is_integer : He5.DefA := ⟨fun K => (He.ga K "is_integer"), "is_integer", "is_integer", defArgs s_is_integer, defBody s_is_integer, defScope s_is_integer, [], []⟩
def d_is_offset : He5.DefA := ⟨fun K => (He.ga K "is_offset"), "is_offset", "is_offset", defArgs s_is_offset, defBody s_is_offset, defScope s_is_offset, [], []⟩
def d_is_number : He5.DefA := ⟨fun K => (He.ga K "is_number"), "is_number", "is_number", defArgs s_is_number, defBody s_is_number, defScope s_is_number, [], []⟩
def d_is_value : He5.DefA := ⟨fun K => (He.ga K "is_value"), "is_value", "is_value", defArgs s_is_value, defBody s_is_value, defScope s_is_value, [], []⟩
def d_is_many : He5.DefA := ⟨fun K => (He.ga K "is_many"), "is_many", "is_many", defArgs s_is_many, defBody s_is_many, defScope s_is_many, [], []⟩
def d_is_step : He5.DefA := ⟨fun K => (He.ga K "is_step"), "is_step", "is_step", defArgs s_is_step, defBody s_is_step, defScope s_is_step, [], []⟩
def d_size_of : He5.DefA := ⟨fun K => (He.ga K "size_of"), "size_of", "size_of", defArgs s_size_of, defBody s_size_of, defScope s_size_of, [], []⟩
def d_reads_at : He5.DefA := ⟨fun K => (He.ga K "reads_at"), "reads_at", "reads_at", defArgs s_reads_at, defBody s_reads_at, defScope s_reads_at, [], []⟩
def d_writes_at : He5.DefA := ⟨fun K => (He.ga K "writes_at"), "writes_at", "writes_at", defArgs s_writes_at, defBody s_writes_at, defScope s_writes_at, [], []⟩
def d_stretches : He5.DefA := ⟨fun K => (He.ga K "stretches"), "stretches", "stretches", defArgs s_stretches, defBody s_stretches, defScope s_stretches, [], []⟩
def d_fits_window : He5.DefA := ⟨fun K => (He.ga K "fits_window"), "fits_window", "fits_window", defArgs s_fits_window, defBody s_fits_window, defScope s_fits_window, [], []⟩
def d_names_used : He5.DefA := ⟨fun K => (He.ga K "names_used"), "names_used", "names_used", defArgs s_names_used, defBody s_names_used, defScope s_names_used, [], []⟩
def d_step_fits : He5.DefA := ⟨fun K => (He.ga K "step_fits"), "step_fits", "step_fits", defArgs s_step_fits, defBody s_step_fits, defScope s_step_fits, [], []⟩
def d_check_steps : He5.DefA := ⟨fun K => (He.ga K "check_steps"), "check_steps", "check_steps", defArgs s_check_steps, defBody s_check_steps, defScope s_check_steps, [], []⟩
def d_check_places : He5.DefA := ⟨fun K => (He.ga K "check_places"), "check_places", "check_places", defArgs s_check_places, defBody s_check_places, defScope s_check_places, [], []⟩
def d_Text_init : He5.DefA := ⟨fun K => (He.ma K (He.ga K "Text") "__init__"), "__init__", "Text.__init__", defArgs s_Text_init, defBody s_Text_init, defScope s_Text_init, [.adr (He.dflAt ("Text", some "__init__") 0), .adr (He.dflAt ("Text", some "__init__") 1), .adr (He.dflAt ("Text", some "__init__") 2)], []⟩
def d_bag : He5.DefA := ⟨fun K => (He.ga K "_law_bag"), "_law_bag", "_law_bag", defArgs s_bag, defBody s_bag, defScope s_bag, [], []⟩
def d_take : He5.DefA := ⟨fun K => (He.ga K "_law_take"), "_law_take", "_law_take", defArgs s_take, defBody s_take, defScope s_take, [], []⟩
def d_names : He5.DefA := ⟨fun K => (He.ga K "_law_names"), "_law_names", "_law_names", defArgs s_names, defBody s_names, defScope s_names, [], []⟩
def d_kinds : He5.DefA := ⟨fun K => (He.ga K "_law_kinds"), "_law_kinds", "_law_kinds", defArgs s_kinds, defBody s_kinds, defScope s_kinds, [], []⟩
def d_use : He5.DefA := ⟨fun K => (He.ga K "_law_use"), "_law_use", "_law_use", defArgs s_use, defBody s_use, defScope s_use, [], []⟩
def d_step : He5.DefA := ⟨fun K => (He.ga K "_law_step"), "_law_step", "_law_step", defArgs s_step, defBody s_step, defScope s_step, [], []⟩
def d_drawn : He5.DefA := ⟨fun K => (He.ga K "_law_drawn"), "_law_drawn", "_law_drawn", defArgs s_drawn, defBody s_drawn, defScope s_drawn, [.int 4], []⟩
def d_line : He5.DefA := ⟨fun K => (He.ga K "_law_line"), "_law_line", "_law_line", defArgs s_line, defBody s_line, defScope s_line, [], []⟩
def d_note : He5.DefA := ⟨fun K => (He.ga K "_law_note"), "_law_note", "_law_note", defArgs s_note, defBody s_note, defScope s_note, [], []⟩
def d_spot_word : He5.DefA := ⟨fun K => (He.ga K "spot_word"), "spot_word", "spot_word", defArgs s_spot_word, defBody s_spot_word, defScope s_spot_word, [], []⟩
def d_step_line : He5.DefA := ⟨fun K => (He.ga K "step_line"), "step_line", "step_line", defArgs s_step_line, defBody s_step_line, defScope s_step_line, [], []⟩
def d_lines_of : He5.DefA := ⟨fun K => (He.ga K "lines_of"), "lines_of", "lines_of", defArgs s_lines_of, defBody s_lines_of, defScope s_lines_of, [], []⟩
def d_write_text : He5.DefA := ⟨fun K => (He.ga K "write_text"), "write_text", "write_text", defArgs s_write_text, defBody s_write_text, defScope s_write_text, [], []⟩
def d_number_in : He5.DefA := ⟨fun K => (He.ga K "number_in"), "number_in", "number_in", defArgs s_number_in, defBody s_number_in, defScope s_number_in, [], []⟩
def d_count_in : He5.DefA := ⟨fun K => (He.ga K "count_in"), "count_in", "count_in", defArgs s_count_in, defBody s_count_in, defScope s_count_in, [], []⟩
def d_spot_in : He5.DefA := ⟨fun K => (He.ga K "spot_in"), "spot_in", "spot_in", defArgs s_spot_in, defBody s_spot_in, defScope s_spot_in, [], []⟩
def d_checked : He5.DefA := ⟨fun K => (He.ga K "checked"), "checked", "checked", defArgs s_checked, defBody s_checked, defScope s_checked, [], []⟩
def d_value_in : He5.DefA := ⟨fun K => (He.ga K "value_in"), "value_in", "value_in", defArgs s_value_in, defBody s_value_in, defScope s_value_in, [], []⟩
def d_step_in : He5.DefA := ⟨fun K => (He.ga K "step_in"), "step_in", "step_in", defArgs s_step_in, defBody s_step_in, defScope s_step_in, [], []⟩
def d_entry_in : He5.DefA := ⟨fun K => (He.ga K "entry_in"), "entry_in", "entry_in", defArgs s_entry_in, defBody s_entry_in, defScope s_entry_in, [], []⟩
def d_Text_read : He5.DefA := ⟨fun K => (He5.wf K (He.ga K "Text") "classmethod" "read"), "read", "Text.read", defArgs s_Text_read, defBody s_Text_read, defScope s_Text_read, [], []⟩
def d_read_text : He5.DefA := ⟨fun K => (He.ga K "read_text"), "read_text", "read_text", defArgs s_read_text, defBody s_read_text, defScope s_read_text, [], []⟩
def d_law : He5.DefA := ⟨fun K => (He.ga K "law"), "law", "law", defArgs s_law, defBody s_law, defScope s_law, [], []⟩
def fn_0 : List He5.DefA := [d_consists_of, d_is_name, d_check_pointers, d_Text_eq, d_value_made, d_value_used, d_is_kind, d_is_integer, d_is_offset, d_is_number, d_is_value, d_is_many, d_is_step, d_size_of, d_reads_at, d_writes_at, d_stretches, d_fits_window, d_names_used, d_step_fits, d_check_steps, d_check_places, d_Text_init, d_bag, d_take, d_names, d_kinds, d_use, d_step, d_drawn]
def fn_1 : List He5.DefA := [d_line, d_note, d_spot_word, d_step_line, d_lines_of, d_write_text, d_number_in, d_count_in, d_spot_in, d_checked, d_value_in, d_step_in, d_entry_in, d_Text_read, d_read_text, d_law]
def fn : List He5.DefA := fn_0 ++ fn_1
def fa_0 : List He.Fa := [.glo "consists_of", .glo "is_name", .glo "check_pointers", .glo "value_made", .glo "value_used", .glo "is_kind", .glo "is_integer", .glo "is_offset", .glo "is_number", .glo "is_value", .glo "is_many", .glo "is_step", .glo "size_of", .glo "reads_at", .glo "writes_at", .glo "stretches", .glo "fits_window", .glo "names_used", .glo "step_fits", .glo "check_steps", .glo "check_places", .glo "_law_bag", .glo "_law_take", .glo "_law_names", .glo "_law_kinds", .glo "_law_use", .glo "_law_step", .glo "_law_drawn", .glo "_law_line", .glo "_law_note"]
def fa_1 : List He.Fa := [.glo "spot_word", .glo "step_line", .glo "lines_of", .glo "write_text", .glo "number_in", .glo "count_in", .glo "spot_in", .glo "checked", .glo "value_in", .glo "step_in", .glo "entry_in", .glo "read_text", .glo "law", .str "LOWER" "abcdefghijklmnopqrstuvwxyz", .str "NAME_SIGNS" "abcdefghijklmnopqrstuvwxyz0123456789", .int "MOST_SIGNS" 8, .int "MOST_POINTERS" 3, .int "MOST_NAMES" 4, .str "FIGURES" "0123456789", .int "MOST_SIZE" 4, .int "MOST_LETTERS" 6, .int "WINDOW" 8, .int "MOST_BYTES" 8, .int "MOST_STEPS" 12, .int "MOST_PLACES" 2, .int "MOST_FIGURES" 40, .glo "Text", .cls "Text", .noat "Text" "places", .noat "Text" "pointers"]
def fa_2 : List He.Fa := [.noat "Text" "steps", .mkr "Text", .glo "PARTS", .free "all", .free "isinstance", .free "str", .free "len", .free "list", .free "enumerate", .free "tuple", .free "min", .free "int", .free "bool", .free "abs", .free "zip", .free "any", .free "range", .free "max"]
def fa : List He.Fa := fa_0 ++ fa_1 ++ fa_2
def loose_0 : List PySem.Str := ["_wall", "LOWER", "FIGURES", "NAME_SIGNS", "MOST_SIGNS", "MOST_LETTERS", "MOST_SIZE", "MOST_FIGURES", "is_integer", "consists_of", "is_name", "is_kind", "size_of", "is_number", "number_in", "count_in", "WINDOW", "MOST_BYTES", "is_offset", "is_many", "is_value", "PARTS", "is_step", "reads_at", "writes_at", "stretches", "fits_window", "names_used", "value_used", "value_made"]
def loose_1 : List PySem.Str := ["spot_word", "step_line", "lines_of", "spot_in", "value_in", "checked", "step_in", "entry_in", "KindError", "BadText", "BadNote", "NoStep", "MOST_PLACES", "MOST_POINTERS", "MOST_NAMES", "MOST_STEPS", "check_places", "check_pointers", "step_fits", "check_steps", "Text", "write_text", "read_text", "_law_bag", "_law_take", "_law_names", "_law_kinds", "_law_use", "_law_step", "_law_drawn"]
def loose_2 : List PySem.Str := ["_law_line", "_law_note"]
def loose : List PySem.Str := loose_0 ++ loose_1 ++ loose_2
def ts : List He.Tab := [(fun K => He.ga K "PARTS", t_PARTS.map (·.1))]
def ex (K : PySem.W.Frag) : Bool := nilB K (He.dflAt ("Text", some "__init__") 0 K) && (nilB K (He.dflAt ("Text", some "__init__") 1 K) && (nilB K (He.dflAt ("Text", some "__init__") 2 K) && (eqCB K (He.ga K "Text") && (cReadB K (He.ga K "Text") && (cMetB K (He.ga K "Text") "read" && (isTabB K isT && (insKB K (He.ga K "Text") && (tabB K "PARTS" t_PARTS))))))))
abbrev R : PySem.W.OpenRow := PySem.W.OpenLaw.row PySem.Challenge.rw_lastkind_k05_notes_there_and_back
abbrev hk : PySem.W.Hook := hookZ 5 fa ts fn ex
def ob (s : PySem.W.SharedT) : AlZ := obsZ 5 fa ts fn ex (HandSHeadRun.getT s)
theorem ob_eq (s : PySem.W.SharedT) : ob s = hk.obs s.abs := obsZ_eq (HandSHeadRun.getT_eq s)
def Pr (w : World) : Prop := HandSHeadRun.RunEq R (PySem.W.view R.prog [69]) hk ob 4000 loose w
theorem run0 (w : World) : Pr (w.withFollow "special-get-raises" false) := by
  intro os
  kernel_rfl
theorem run1 (w : World) : Pr (w.withFollow "special-get-raises" true) := by
  intro os
  kernel_rfl
theorem run (w : World) : HandSHeadRun.RunEq R (PySem.W.view R.prog [69]) hk ob 4000 loose w := PySem.W.byRow2 "special-get-raises" (P := Pr) run0 run1 w
theorem tx_of {w : World} {K : PySem.W.Frag} {h : Heap} {mg : Str → Option Value} (X : K.In h) (G : h.Ns mainGlobals mg) (c : SaysZ fa ts fn ex w K) : Tx w K mg where
  f_consists_of := ⟨c.def_ 0 (d := d_consists_of) rfl, He.glo_ok X G (c.fact 0 (f := .glo "consists_of") rfl)⟩
  g_consists_of := He.glo_ok X G (c.fact 0 (f := .glo "consists_of") rfl)
  f_is_name := ⟨c.def_ 1 (d := d_is_name) rfl, He.glo_ok X G (c.fact 1 (f := .glo "is_name") rfl)⟩
  g_is_name := He.glo_ok X G (c.fact 1 (f := .glo "is_name") rfl)
  f_check_pointers := ⟨c.def_ 2 (d := d_check_pointers) rfl, He.glo_ok X G (c.fact 2 (f := .glo "check_pointers") rfl)⟩
  g_check_pointers := He.glo_ok X G (c.fact 2 (f := .glo "check_pointers") rfl)
  f_Text_eq := c.def_ 3 (d := d_Text_eq) rfl
  f_value_made := ⟨c.def_ 4 (d := d_value_made) rfl, He.glo_ok X G (c.fact 3 (f := .glo "value_made") rfl)⟩
  g_value_made := He.glo_ok X G (c.fact 3 (f := .glo "value_made") rfl)
  f_value_used := ⟨c.def_ 5 (d := d_value_used) rfl, He.glo_ok X G (c.fact 4 (f := .glo "value_used") rfl)⟩
  g_value_used := He.glo_ok X G (c.fact 4 (f := .glo "value_used") rfl)
  f_is_kind := ⟨c.def_ 6 (d := d_is_kind) rfl, He.glo_ok X G (c.fact 5 (f := .glo "is_kind") rfl)⟩
  g_is_kind := He.glo_ok X G (c.fact 5 (f := .glo "is_kind") rfl)
  f_is_integer := ⟨c.def_ 7 (d := d_is_integer) rfl, He.glo_ok X G (c.fact 6 (f := .glo "is_integer") rfl)⟩
  g_is_integer := He.glo_ok X G (c.fact 6 (f := .glo "is_integer") rfl)
  f_is_offset := ⟨c.def_ 8 (d := d_is_offset) rfl, He.glo_ok X G (c.fact 7 (f := .glo "is_offset") rfl)⟩
  g_is_offset := He.glo_ok X G (c.fact 7 (f := .glo "is_offset") rfl)
  f_is_number := ⟨c.def_ 9 (d := d_is_number) rfl, He.glo_ok X G (c.fact 8 (f := .glo "is_number") rfl)⟩
  g_is_number := He.glo_ok X G (c.fact 8 (f := .glo "is_number") rfl)
  f_is_value := ⟨c.def_ 10 (d := d_is_value) rfl, He.glo_ok X G (c.fact 9 (f := .glo "is_value") rfl)⟩
  g_is_value := He.glo_ok X G (c.fact 9 (f := .glo "is_value") rfl)
  f_is_many := ⟨c.def_ 11 (d := d_is_many) rfl, He.glo_ok X G (c.fact 10 (f := .glo "is_many") rfl)⟩
  g_is_many := He.glo_ok X G (c.fact 10 (f := .glo "is_many") rfl)
  f_is_step := ⟨c.def_ 12 (d := d_is_step) rfl, He.glo_ok X G (c.fact 11 (f := .glo "is_step") rfl)⟩
  g_is_step := He.glo_ok X G (c.fact 11 (f := .glo "is_step") rfl)
  f_size_of := ⟨c.def_ 13 (d := d_size_of) rfl, He.glo_ok X G (c.fact 12 (f := .glo "size_of") rfl)⟩
  g_size_of := He.glo_ok X G (c.fact 12 (f := .glo "size_of") rfl)
  f_reads_at := ⟨c.def_ 14 (d := d_reads_at) rfl, He.glo_ok X G (c.fact 13 (f := .glo "reads_at") rfl)⟩
  g_reads_at := He.glo_ok X G (c.fact 13 (f := .glo "reads_at") rfl)
  f_writes_at := ⟨c.def_ 15 (d := d_writes_at) rfl, He.glo_ok X G (c.fact 14 (f := .glo "writes_at") rfl)⟩
  g_writes_at := He.glo_ok X G (c.fact 14 (f := .glo "writes_at") rfl)
  f_stretches := ⟨c.def_ 16 (d := d_stretches) rfl, He.glo_ok X G (c.fact 15 (f := .glo "stretches") rfl)⟩
  g_stretches := He.glo_ok X G (c.fact 15 (f := .glo "stretches") rfl)
  f_fits_window := ⟨c.def_ 17 (d := d_fits_window) rfl, He.glo_ok X G (c.fact 16 (f := .glo "fits_window") rfl)⟩
  g_fits_window := He.glo_ok X G (c.fact 16 (f := .glo "fits_window") rfl)
  f_names_used := ⟨c.def_ 18 (d := d_names_used) rfl, He.glo_ok X G (c.fact 17 (f := .glo "names_used") rfl)⟩
  g_names_used := He.glo_ok X G (c.fact 17 (f := .glo "names_used") rfl)
  f_step_fits := ⟨c.def_ 19 (d := d_step_fits) rfl, He.glo_ok X G (c.fact 18 (f := .glo "step_fits") rfl)⟩
  g_step_fits := He.glo_ok X G (c.fact 18 (f := .glo "step_fits") rfl)
  f_check_steps := ⟨c.def_ 20 (d := d_check_steps) rfl, He.glo_ok X G (c.fact 19 (f := .glo "check_steps") rfl)⟩
  g_check_steps := He.glo_ok X G (c.fact 19 (f := .glo "check_steps") rfl)
  f_check_places := ⟨c.def_ 21 (d := d_check_places) rfl, He.glo_ok X G (c.fact 20 (f := .glo "check_places") rfl)⟩
  g_check_places := He.glo_ok X G (c.fact 20 (f := .glo "check_places") rfl)
  f_Text_init := c.def_ 22 (d := d_Text_init) rfl
  f_bag := ⟨c.def_ 23 (d := d_bag) rfl, He.glo_ok X G (c.fact 21 (f := .glo "_law_bag") rfl)⟩
  g_bag := He.glo_ok X G (c.fact 21 (f := .glo "_law_bag") rfl)
  f_take := ⟨c.def_ 24 (d := d_take) rfl, He.glo_ok X G (c.fact 22 (f := .glo "_law_take") rfl)⟩
  g_take := He.glo_ok X G (c.fact 22 (f := .glo "_law_take") rfl)
  f_names := ⟨c.def_ 25 (d := d_names) rfl, He.glo_ok X G (c.fact 23 (f := .glo "_law_names") rfl)⟩
  g_names := He.glo_ok X G (c.fact 23 (f := .glo "_law_names") rfl)
  f_kinds := ⟨c.def_ 26 (d := d_kinds) rfl, He.glo_ok X G (c.fact 24 (f := .glo "_law_kinds") rfl)⟩
  g_kinds := He.glo_ok X G (c.fact 24 (f := .glo "_law_kinds") rfl)
  f_use := ⟨c.def_ 27 (d := d_use) rfl, He.glo_ok X G (c.fact 25 (f := .glo "_law_use") rfl)⟩
  g_use := He.glo_ok X G (c.fact 25 (f := .glo "_law_use") rfl)
  f_step := ⟨c.def_ 28 (d := d_step) rfl, He.glo_ok X G (c.fact 26 (f := .glo "_law_step") rfl)⟩
  g_step := He.glo_ok X G (c.fact 26 (f := .glo "_law_step") rfl)
  f_drawn := c.def_ 29 (d := d_drawn) rfl
  g_drawn := He.glo_ok X G (c.fact 27 (f := .glo "_law_drawn") rfl)
  f_line := ⟨c.def_ 30 (d := d_line) rfl, He.glo_ok X G (c.fact 28 (f := .glo "_law_line") rfl)⟩
  g_line := He.glo_ok X G (c.fact 28 (f := .glo "_law_line") rfl)
  f_note := ⟨c.def_ 31 (d := d_note) rfl, He.glo_ok X G (c.fact 29 (f := .glo "_law_note") rfl)⟩
  g_note := He.glo_ok X G (c.fact 29 (f := .glo "_law_note") rfl)
  f_spot_word := ⟨c.def_ 32 (d := d_spot_word) rfl, He.glo_ok X G (c.fact 30 (f := .glo "spot_word") rfl)⟩
  g_spot_word := He.glo_ok X G (c.fact 30 (f := .glo "spot_word") rfl)
  f_step_line := ⟨c.def_ 33 (d := d_step_line) rfl, He.glo_ok X G (c.fact 31 (f := .glo "step_line") rfl)⟩
  g_step_line := He.glo_ok X G (c.fact 31 (f := .glo "step_line") rfl)
  f_lines_of := ⟨c.def_ 34 (d := d_lines_of) rfl, He.glo_ok X G (c.fact 32 (f := .glo "lines_of") rfl)⟩
  g_lines_of := He.glo_ok X G (c.fact 32 (f := .glo "lines_of") rfl)
  f_write_text := ⟨c.def_ 35 (d := d_write_text) rfl, He.glo_ok X G (c.fact 33 (f := .glo "write_text") rfl)⟩
  g_write_text := He.glo_ok X G (c.fact 33 (f := .glo "write_text") rfl)
  f_number_in := ⟨c.def_ 36 (d := d_number_in) rfl, He.glo_ok X G (c.fact 34 (f := .glo "number_in") rfl)⟩
  g_number_in := He.glo_ok X G (c.fact 34 (f := .glo "number_in") rfl)
  f_count_in := ⟨c.def_ 37 (d := d_count_in) rfl, He.glo_ok X G (c.fact 35 (f := .glo "count_in") rfl)⟩
  g_count_in := He.glo_ok X G (c.fact 35 (f := .glo "count_in") rfl)
  f_spot_in := ⟨c.def_ 38 (d := d_spot_in) rfl, He.glo_ok X G (c.fact 36 (f := .glo "spot_in") rfl)⟩
  g_spot_in := He.glo_ok X G (c.fact 36 (f := .glo "spot_in") rfl)
  f_checked := ⟨c.def_ 39 (d := d_checked) rfl, He.glo_ok X G (c.fact 37 (f := .glo "checked") rfl)⟩
  g_checked := He.glo_ok X G (c.fact 37 (f := .glo "checked") rfl)
  f_value_in := ⟨c.def_ 40 (d := d_value_in) rfl, He.glo_ok X G (c.fact 38 (f := .glo "value_in") rfl)⟩
  g_value_in := He.glo_ok X G (c.fact 38 (f := .glo "value_in") rfl)
  f_step_in := ⟨c.def_ 41 (d := d_step_in) rfl, He.glo_ok X G (c.fact 39 (f := .glo "step_in") rfl)⟩
  g_step_in := He.glo_ok X G (c.fact 39 (f := .glo "step_in") rfl)
  f_entry_in := ⟨c.def_ 42 (d := d_entry_in) rfl, He.glo_ok X G (c.fact 40 (f := .glo "entry_in") rfl)⟩
  g_entry_in := He.glo_ok X G (c.fact 40 (f := .glo "entry_in") rfl)
  f_Text_read := c.def_ 43 (d := d_Text_read) rfl
  f_read_text := ⟨c.def_ 44 (d := d_read_text) rfl, He.glo_ok X G (c.fact 41 (f := .glo "read_text") rfl)⟩
  g_read_text := He.glo_ok X G (c.fact 41 (f := .glo "read_text") rfl)
  f_law := ⟨c.def_ 45 (d := d_law) rfl, He.glo_ok X G (c.fact 42 (f := .glo "law") rfl)⟩
  g_law := He.glo_ok X G (c.fact 42 (f := .glo "law") rfl)
  c_LOWER := He.str_ok X G (c.fact 43 (f := .str "LOWER" "abcdefghijklmnopqrstuvwxyz") rfl)
  c_NAME_SIGNS := He.str_ok X G (c.fact 44 (f := .str "NAME_SIGNS" "abcdefghijklmnopqrstuvwxyz0123456789") rfl)
  c_MOST_SIGNS := He.int_ok X G (c.fact 45 (f := .int "MOST_SIGNS" 8) rfl)
  c_MOST_POINTERS := He.int_ok X G (c.fact 46 (f := .int "MOST_POINTERS" 3) rfl)
  c_MOST_NAMES := He.int_ok X G (c.fact 47 (f := .int "MOST_NAMES" 4) rfl)
  c_FIGURES := He.str_ok X G (c.fact 48 (f := .str "FIGURES" "0123456789") rfl)
  c_MOST_SIZE := He.int_ok X G (c.fact 49 (f := .int "MOST_SIZE" 4) rfl)
  c_MOST_LETTERS := He.int_ok X G (c.fact 50 (f := .int "MOST_LETTERS" 6) rfl)
  c_WINDOW := He.int_ok X G (c.fact 51 (f := .int "WINDOW" 8) rfl)
  c_MOST_BYTES := He.int_ok X G (c.fact 52 (f := .int "MOST_BYTES" 8) rfl)
  c_MOST_STEPS := He.int_ok X G (c.fact 53 (f := .int "MOST_STEPS" 12) rfl)
  c_MOST_PLACES := He.int_ok X G (c.fact 54 (f := .int "MOST_PLACES" 2) rfl)
  c_MOST_FIGURES := He.int_ok X G (c.fact 55 (f := .int "MOST_FIGURES" 40) rfl)
  g_Text := He.glo_ok X G (c.fact 56 (f := .glo "Text") rfl)
  c_Text := He.cls_ok (c.fact 57 (f := .cls "Text") rfl)
  na_Text_places := He.noat_ok (c.fact 58 (f := .noat "Text" "places") rfl)
  na_Text_pointers := He.noat_ok (c.fact 59 (f := .noat "Text" "pointers") rfl)
  na_Text_steps := He.noat_ok (c.fact 60 (f := .noat "Text" "steps") rfl)
  mk_Text := He.mkr_ok (c.fact 61 (f := .mkr "Text") rfl)
  b_all := He.free_ok X G (c.fact 63 (f := .free "all") rfl)
  b_isinstance := He.free_ok X G (c.fact 64 (f := .free "isinstance") rfl)
  b_str := He.free_ok X G (c.fact 65 (f := .free "str") rfl)
  b_len := He.free_ok X G (c.fact 66 (f := .free "len") rfl)
  b_list := He.free_ok X G (c.fact 67 (f := .free "list") rfl)
  b_enumerate := He.free_ok X G (c.fact 68 (f := .free "enumerate") rfl)
  b_tuple := He.free_ok X G (c.fact 69 (f := .free "tuple") rfl)
  b_min := He.free_ok X G (c.fact 70 (f := .free "min") rfl)
  b_int := He.free_ok X G (c.fact 71 (f := .free "int") rfl)
  b_bool := He.free_ok X G (c.fact 72 (f := .free "bool") rfl)
  b_abs := He.free_ok X G (c.fact 73 (f := .free "abs") rfl)
  b_zip := He.free_ok X G (c.fact 74 (f := .free "zip") rfl)
  b_any := He.free_ok X G (c.fact 75 (f := .free "any") rfl)
  b_range := He.free_ok X G (c.fact 76 (f := .free "range") rfl)
  b_max := He.free_ok X G (c.fact 77 (f := .free "max") rfl)
  n_Text_init_0 := (He.ba c.ok.2).1
  n_Text_init_1 := (He.ba (He.ba c.ok.2).2).1
  n_Text_init_2 := (He.ba (He.ba (He.ba c.ok.2).2).2).1
  eq_Text := eqC_of ((He.ba (He.ba (He.ba (He.ba c.ok.2).2).2).2).1)
  rd_Text := cRead_of ((He.ba (He.ba (He.ba (He.ba (He.ba c.ok.2).2).2).2).2).1)
  cm_Text_read := cMet_of ((He.ba (He.ba (He.ba (He.ba (He.ba (He.ba c.ok.2).2).2).2).2).2).1)
  is_ := ⟨isTab_of ((He.ba (He.ba (He.ba (He.ba (He.ba (He.ba (He.ba c.ok.2).2).2).2).2).2).2).1), (List.forall_mem_cons.mpr ⟨insK_of (He.cls_ok (c.fact 57 (f := .cls "Text") rfl)) ((He.ba (He.ba (He.ba (He.ba (He.ba (He.ba (He.ba (He.ba c.ok.2).2).2).2).2).2).2).2).1), (fun _ h => nomatch h)⟩)⟩
  t_PARTS := tabOk_of (He.glo_ok X G (c.fact 62 (f := .glo "PARTS") rfl)) (c.tab 0 rfl) ((He.ba (He.ba (He.ba (He.ba (He.ba (He.ba (He.ba (He.ba c.ok.2).2).2).2).2).2).2).2).2)
theorem facts {P : Program} {w : World} {K : PySem.W.Frag} {h : Heap} {mg : Str → Option Value} {f : Addr} (X : K.In h) (G : h.Ns mainGlobals mg) (hfa : mg ("law" : Str) = some (.ref f)) (c : SaysZ fa ts fn ex w K) :
    ∃ fd : FuncData, (∀ (s : Shared) (v : Value), BindsTo s fd ⟨[v], []⟩ [("_law_script", v)]) ∧ ∀ base : Heap, FnG P w K mg base (L2.CX P w) 11 f fd ["_law_script"] (spF ⟨K, P, w⟩ 1 f_law) := by
  have T := tx_of X G c
  obtain ⟨⟨fd, Fu⟩, e1⟩ := T.f_law
  have e := hfa.symm.trans e1
  cases e
  have b := FunD.bindsA (ps := ["_law_script"]) Fu bi_law
  refine ⟨fd, fun s v => b s [v] rfl, fun base => ?_⟩
  obtain ⟨fd', h1, h2, h3, h4, oc', od', osl', lk'⟩ := (ok_law (P := P) (w := w) (base := base) T).g
  obtain ⟨oc, od, _, _, _, _, _, _, _, osl, _, lk, _⟩ := Fu.ex
  rw [lk] at lk'
  cases lk'
  exact h1
end Kw
open PySem PySem.W PySem.Calls PyProof.Rows
theorem Kw.fin (law_true : ∀ ns : List Int, ns.length ≤ 63 → ∃ S, Kw.f_law [.p (.scr ns)] [] = .ok (.p (.bl true)) S) : PySem.Challenge.rw_lastkind_k05_notes_there_and_back.Holds := by
  w_on; o_law
  refine HandSHeadRun.head_any (r := OpenLaw.row PySem.Challenge.rw_lastkind_k05_notes_there_and_back) (q := view (OpenLaw.row PySem.Challenge.rw_lastkind_k05_notes_there_and_back).prog [69]) (H := Kw.hk) (ob := Kw.ob) (M := 4000) (loose := Kw.loose) (d := HandSHeadRun.topDef (OpenLaw.row PySem.Challenge.rw_lastkind_k05_notes_there_and_back).prog 69) (kwd := []) Kw.ob_eq
    (by kernel_rfl) (fun s => by kernel_rfl) Kw.run (by kernel_rfl) (by kernel_rfl) (by kernel_rfl) (by rfl) (by first | assumption | decide +kernel) (by decide +kernel) ⟨rfl, rfl, rfl, rfl, rfl, by decide +kernel⟩ ?hw ?hc
  case hw => w_witness2
  case hc =>
    refine Z.walk_ofG (l := PySem.Challenge.rw_lastkind_k05_notes_there_and_back) (n := 63) (k := 11) (x := "_law_script") (f := Kw.f_law) rfl (by decide) (by kernel_rfl) ⟨rfl, by decide, by decide⟩ ?F law_true
    intro w mg fa h Y G hmg0
    obtain ⟨K, KX, c⟩ := Y
    have hmg : mg ("law" : PySem.Str) = some (.ref fa) := by
      have e : (HandSHeadRun.topDef (OpenLaw.row PySem.Challenge.rw_lastkind_k05_notes_there_and_back).prog 69).name = ("law" : PySem.Str) := by kernel_rfl
      rw [← e]
      exact hmg0
    obtain ⟨fd, hb, hF⟩ := Kw.facts (P := (PySem.Challenge.rw_lastkind_k05_notes_there_and_back).prog) (w := w) KX G hmg c
    exact ⟨K, fd, KX, hb, hF⟩



theorem PySem.Challenge.cw_lastkind_k05_notes_there_and_back_holds : PySem.Challenge.rw_lastkind_k05_notes_there_and_back.Holds :=
  Kw.fin Kw.law_true
