import PyProof.Rows.All
import HandS.Conv
import HandS.Deep
import HandS.Flow
import HandS.ForMost
import HandS.Gcd
import HandS.IsInst
import HandS.SortOrd
import HandS.Style
import HandS.Walk
import HandS.Wide
import HandS.Zip
import KE.DatumIndex
import KE.DatumOrd
import KE.GoesEnum
import KE.SortData
import OpenK.AllK
import Wide.All
import Wide.FinOn
import PySem.Challenge.RW_ringlands_k51_fractions_read_backwards
set_option Elab.async false
set_option linter.all false
set_option maxRecDepth 100000
namespace VS
open PySem PySem.Spec PyProof.Rows L2

abbrev D := PyData

/-! ### only new objects come -/
/-- F: what is frozen for ever; H: the heap. From (F, H) to (F', H') only new objects came. -/
structure Ext (F H F' H' : Hp) : Prop where
  ff : Same F F'
  hh : Same H H'
  fh : Same F' H'
  nw : ∀ b o, F' b = some o → F b = some o ∨ H b = none

theorem Ext.refl {F H : Hp} (s : Same F H) : Ext F H F H := ⟨Same.refl _, Same.refl _, s, fun _ _ e => .inl e⟩
theorem Ext.trans {F H F1 H1 F2 H2 : Hp} (a : Ext F H F1 H1) (b : Ext F1 H1 F2 H2) : Ext F H F2 H2 :=
  ⟨a.ff.trans b.ff, a.hh.trans b.hh, b.fh, fun c o e => by
    rcases b.nw c o e with h | h
    · exact a.nw c o h
    · exact .inr (a.hh.free h)⟩
theorem same_upd {H : Hp} {p : Addr} (h : H p = none) (o : HO) : Same H (upd H p o) := fun b u q => by rw [upd_ne (ne_of_none q h)]; exact q
/-- a new object, frozen at once -/
theorem Ext.new {F H : Hp} {p : Addr} (s : Same F H) (h : H p = none) (o : HO) : Ext F H (upd F p o) (upd H p o) := by
  refine ⟨same_upd (s.free h) o, same_upd h o, fun b u e => ?_, fun b u e => ?_⟩
  · by_cases hb : b = p
    · subst hb; rw [upd_same] at e ⊢; exact e
    · rw [upd_ne hb] at e ⊢; exact s b u e
  · by_cases hb : b = p
    · subst hb; exact .inr h
    · rw [upd_ne hb] at e; exact .inl e
/-- a new object, not frozen -/
theorem Ext.newOwn {F H : Hp} {p : Addr} (s : Same F H) (h : H p = none) (o : HO) : Ext F H F (upd H p o) :=
  ⟨Same.refl _, same_upd h o, s.trans (same_upd h o), fun _ _ e => .inl e⟩
theorem Ext.froze {F H F' H' : Hp} {p : Addr} {o : HO} (x : Ext F H F' H') (hp : H' p = some o) (h0 : H p = none) (f0 : F' p = none) : Ext F H (upd F' p o) H' := by
  refine ⟨x.ff.trans (same_upd f0 o), x.hh, fun b u e => ?_, fun b u e => ?_⟩
  · by_cases hb : b = p
    · subst hb; rw [upd_same] at e; rw [← e]; exact hp
    · rw [upd_ne hb] at e; exact x.fh b u e
  · by_cases hb : b = p
    · subst hb; exact .inr h0
    · rw [upd_ne hb] at e; exact x.nw b u e
theorem Ext.fnone {F H F' H' : Hp} (x : Ext F H F' H') {p : Addr} (h : H p ≠ none) (f : F p = none) : F' p = none := by
  cases q : F' p with
  | none => rfl
  | some o =>
    rcases x.nw p o q with e | e
    · rw [f] at e; cases e
    · exact absurd e h

/-! ### data in the frozen heap -/
mutual
theorem Dp.mono {K : PySem.W.Frag} {F F' : Hp} (s : Same F F') : ∀ {v : V} {d : D}, Dp K F v d → Dp K F' v d
  | _, _, .non => .non
  | _, _, .bl b => .bl b
  | _, _, .int i => .int i
  | _, _, .str x => .str x
  | _, _, .lst h t => .lst (s.seq h) (DpAll.mono s t)
  | _, _, .tup h t => .tup (by
      rcases h with (h | ⟨o, h⟩) | h
      · exact .inl (.inl (s _ _ h))
      · exact .inl (.inr ⟨o, s _ _ h⟩)
      · exact .inr h) (DpAll.mono s t)
theorem DpAll.mono {K : PySem.W.Frag} {F F' : Hp} (s : Same F F') : ∀ {vs : List V} {ds : List D}, DpAll K F vs ds → DpAll K F' vs ds
  | _, _, .nil => .nil
  | _, _, .cons h t => .cons (Dp.mono s h) (DpAll.mono s t)
end
theorem sqT_mono {K : PySem.W.Frag} {H H' : Hp} {a : Addr} {xs : List V} (s : Same H H') (h : SqT K H a xs) : SqT K H' a xs := by
  rcases h with (h | ⟨o, h⟩) | h
  · exact .inl (.inl (s _ _ h))
  · exact .inl (.inr ⟨o, s _ _ h⟩)
  · exact .inr h
section
variable {K : PySem.W.Frag} {F : Hp}
theorem DpAll.length : ∀ {vs : List V} {ds : List D}, DpAll K F vs ds → vs.length = ds.length
  | _, _, .nil => rfl
  | _, _, .cons _ t => congrArg Nat.succ (DpAll.length t)
theorem DpAll.get : ∀ {vs : List V} {ds : List D} {i : Nat} {v : V}, DpAll K F vs ds → vs[i]? = some v → ∃ d, ds[i]? = some d ∧ Dp K F v d
  | _, _, _, _, .nil, e => by simp at e
  | _, _, 0, _, .cons h _, e => by simp at e; subst e; exact ⟨_, rfl, h⟩
  | _, _, i + 1, v, .cons _ t, e => by
    obtain ⟨d, h1, h2⟩ := DpAll.get (i := i) (v := v) t (by simpa using e)
    exact ⟨d, by simpa using h1, h2⟩
theorem DpAll.get' : ∀ {vs : List V} {ds : List D} {i : Nat} {d : D}, DpAll K F vs ds → ds[i]? = some d → ∃ v, vs[i]? = some v ∧ Dp K F v d
  | _, _, _, _, .nil, e => by simp at e
  | _, _, 0, _, .cons h _, e => by simp at e; subst e; exact ⟨_, rfl, h⟩
  | _, _, i + 1, d, .cons _ t, e => by
    obtain ⟨v, h1, h2⟩ := DpAll.get' (i := i) (d := d) t (by simpa using e)
    exact ⟨v, by simpa using h1, h2⟩
theorem DpAll.set {v : V} {d : D} (r : Dp K F v d) : ∀ {vs : List V} {ds : List D} (i : Nat), DpAll K F vs ds → DpAll K F (vs.set i v) (ds.set i d)
  | _, _, _, .nil => .nil
  | _, _, 0, .cons _ t => .cons r t
  | _, _, i + 1, .cons q t => .cons q (DpAll.set r i t)
theorem DpAll.append : ∀ {vs : List V} {ds : List D} {ws : List V} {es : List D}, DpAll K F vs ds → DpAll K F ws es → DpAll K F (vs ++ ws) (ds ++ es)
  | _, _, _, _, .nil, s => s
  | _, _, _, _, .cons r t, s => .cons r (DpAll.append t s)
theorem DpAll.take : ∀ {vs : List V} {ds : List D} (n : Nat), DpAll K F vs ds → DpAll K F (vs.take n) (ds.take n)
  | _, _, 0, _ => .nil
  | _, _, _ + 1, .nil => .nil
  | _, _, n + 1, .cons r t => .cons r (DpAll.take n t)
theorem DpAll.drop : ∀ {vs : List V} {ds : List D} (n : Nat), DpAll K F vs ds → DpAll K F (vs.drop n) (ds.drop n)
  | _, _, 0, r => r
  | _, _, _ + 1, .nil => .nil
  | _, _, n + 1, .cons _ t => DpAll.drop n t
theorem DpAll.reverse : ∀ {vs : List V} {ds : List D}, DpAll K F vs ds → DpAll K F vs.reverse ds.reverse
  | _, _, .nil => .nil
  | _, _, .cons r t => by
    rw [List.reverse_cons, List.reverse_cons]
    exact DpAll.append (DpAll.reverse t) (.cons r .nil)
theorem DpAll.eraseIdx : ∀ {vs : List V} {ds : List D} (n : Nat), DpAll K F vs ds → DpAll K F (vs.eraseIdx n) (ds.eraseIdx n)
  | _, _, _, .nil => .nil
  | _, _, 0, .cons _ t => t
  | _, _, n + 1, .cons r t => .cons r (DpAll.eraseIdx n t)
theorem DpAll.ints : ∀ (ns : List Int), DpAll K F (ns.map V.int) (ns.map PyData.int)
  | [] => .nil
  | n :: ns => .cons (.int n) (DpAll.ints ns)
theorem DpAll.ints_of : ∀ {vs : List V} {ns : List Int}, DpAll K F vs (ns.map PyData.int) → vs = ns.map V.int
  | _, [], .nil => rfl
  | _, n :: ns, .cons h t => by
    cases h
    rw [DpAll.ints_of t]
    rfl
theorem dp_int {v : V} {i : Int} (h : Dp K F v (.int i)) : v = .int i := by cases h; rfl
theorem dp_bl {v : V} {i : Bool} (h : Dp K F v (.bool i)) : v = .bl i := by cases h; rfl
theorem dp_str {v : V} {i : Str} (h : Dp K F v (.str i)) : v = .str i := by cases h; rfl
theorem dp_non {v : V} (h : Dp K F v .none) : v = .non := by cases h; rfl
theorem dp_lst {v : V} {ds : List D} (h : Dp K F v (.list ds)) : ∃ p vs, v = .ref p ∧ SqL K F p vs ∧ DpAll K F vs ds := by
  cases h with
  | lst a b => exact ⟨_, _, rfl, a, b⟩
theorem dp_tup {v : V} {ds : List D} (h : Dp K F v (.tuple ds)) : ∃ p vs, v = .ref p ∧ SqT K F p vs ∧ DpAll K F vs ds := by
  cases h with
  | tup a b => exact ⟨_, _, rfl, a, b⟩
end

/-! ### slots -/
inductive Sl where
  /-- nothing is known -/
  | un
  /-- frozen data -/
  | val (d : D)
  /-- a list that is this slot's alone -/
  | own (ds : List D)
  /-- a list that the caller has lent -/
  | brw (p : Addr) (ds : List D)
abbrev Rho := List Sl
def Sl.isOwn : Sl → Bool
  | .own _ => true
  | .brw _ _ => true
  | _ => false
def SlOk (K : PySem.W.Frag) (F H : Hp) : Sl → Option (Option V) → Prop
  | .un, _ => True
  | .val d, o => ∃ v, o = some (some v) ∧ Dp K F v d
  | .own ds, o => ∃ p vs, o = some (some (.ref p)) ∧ H p = some (.lst vs) ∧ F p = none ∧ DpAll K F vs ds
  | .brw p ds, o => ∃ vs, o = some (some (.ref p)) ∧ H p = some (.lst vs) ∧ F p = none ∧ DpAll K F vs ds
/-- the i-th slot holds an own list at b -/
def ownAt (ρ : Rho) (σ : L2.St) (i : Nat) (b : Addr) : Prop := σ[i]? = some (some (.ref b)) ∧ ∃ s, ρ[i]? = some s ∧ s.isOwn = true
def owns (ρ : Rho) (σ : L2.St) (b : Addr) : Prop := ∃ i, ownAt ρ σ i b
structure Rel (K : PySem.W.Frag) (ρ : Rho) (σ : L2.St) (F H : Hp) : Prop where
  sub : Same F H
  at_ : ∀ (i : Nat) s, ρ[i]? = some s → SlOk K F H s σ[i]?
  dis : ∀ (i j : Nat) b, ownAt ρ σ i b → ownAt ρ σ j b → i = j
  len : σ.length = ρ.length
section
variable {K : PySem.W.Frag} {ρ : Rho} {σ : L2.St} {F H F' H' : Hp}
theorem SlOk.ext {s : Sl} {o : Option (Option V)} (x : Ext F H F' H') (h : SlOk K F H s o) : SlOk K F' H' s o := by
  cases s with
  | un => trivial
  | val d =>
    obtain ⟨v, e, r⟩ := h
    exact ⟨v, e, Dp.mono x.ff r⟩
  | own ds =>
    obtain ⟨p, vs, e, hp, hf, r⟩ := h
    exact ⟨p, vs, e, x.hh _ _ hp, x.fnone (by rw [hp]; simp) hf, DpAll.mono x.ff r⟩
  | brw p ds =>
    obtain ⟨vs, e, hp, hf, r⟩ := h
    exact ⟨vs, e, x.hh _ _ hp, x.fnone (by rw [hp]; simp) hf, DpAll.mono x.ff r⟩
theorem Rel.ext (R : Rel K ρ σ F H) (x : Ext F H F' H') : Rel K ρ σ F' H' :=
  ⟨x.fh, fun i s e => (R.at_ i s e).ext x, R.dis, R.len⟩
theorem Rel.own_lst (R : Rel K ρ σ F H) {b : Addr} (h : owns ρ σ b) : ∃ vs, H b = some (.lst vs) ∧ F b = none := by
  obtain ⟨i, e, s, es, ow⟩ := h
  have q := R.at_ i s es
  cases s with
  | un => cases ow
  | val d => cases ow
  | own ds =>
    obtain ⟨p, vs, e', hp, hf, r⟩ := q
    rw [e] at e'; cases e'
    exact ⟨vs, hp, hf⟩
  | brw p ds =>
    obtain ⟨vs, e', hp, hf, r⟩ := q
    rw [e] at e'; cases e'
    exact ⟨vs, hp, hf⟩
end

/-! ### the frame -/
/-- what a piece of code may have changed: the own lists of its start, and new objects -/
structure Fr (ρ : Rho) (σ : L2.St) (F H : Hp) (ρ' : Rho) (σ' : L2.St) (F' H' : Hp) : Prop where
  ff : Same F F'
  hh : ∀ b o, H b = some o → ¬ owns ρ σ b → H' b = some o
  nw : ∀ b o, F' b = some o → F b = some o ∨ H b = none ∨ owns ρ σ b
  ow : ∀ b, owns ρ' σ' b → owns ρ σ b ∨ H b = none
  there : ∀ b, H' b = none → H b = none
section
variable {ρ ρ1 ρ2 : Rho} {σ σ1 σ2 : L2.St} {F H F1 H1 F2 H2 : Hp}
theorem Fr.of_ext (x : Ext F H F1 H1) : Fr ρ σ F H ρ σ F1 H1 :=
  ⟨x.ff, fun b o e _ => x.hh b o e, fun b o e => (x.nw b o e).elim .inl fun z => .inr (.inl z), fun _ h => .inl h, fun _ e => x.hh.free e⟩
theorem Fr.trans (a : Fr ρ σ F H ρ1 σ1 F1 H1) (b : Fr ρ1 σ1 F1 H1 ρ2 σ2 F2 H2) : Fr ρ σ F H ρ2 σ2 F2 H2 := by
  refine ⟨a.ff.trans b.ff, fun c o e n => ?_, fun c o e => ?_, fun c h => ?_, fun c e => a.there c (b.there c e)⟩
  · have e1 := a.hh c o e n
    refine b.hh c o e1 fun w => ?_
    rcases a.ow c w with z | z
    · exact n z
    · rw [e] at z; cases z
  · rcases b.nw c o e with z | z | z
    · exact a.nw c o z
    · exact .inr (.inl (a.there c z))
    · rcases a.ow c z with y | y
      · exact .inr (.inr y)
      · exact .inr (.inl y)
  · rcases b.ow c h with z | z
    · exact a.ow c z
    · exact .inr (a.there c z)
end

/-! ### the canonical readings -/
section
variable (X : Cx)
def tE (e : Expr) : TE := fun σ H Q => ∀ pins s, Inv X pins σ H s → wpAny (model X.prog X.w) X.A (eval e X.env) (EP X pins σ Q) X.xe s
def tT (e : Expr) : TT := fun σ H Q => ∀ pins s, Inv X pins σ H s → wpAny (model X.prog X.w) X.A (isTrue e X.env (eval e X.env)) (TP X pins σ Q) X.xe s
def tW (e : Expr) : TT := fun σ H Q => ∀ whole pins s, Inv X pins σ H s → wpAny (model X.prog X.w) X.A (isTrue e X.env whole) (TP X pins σ Q) X.xe s
def tA (es : List Expr) : TA := fun σ H Q => ∀ pos pins s, Inv X pins σ H s → wpAny (model X.prog X.w) X.A (spliced (backTo pos (starEach es X.env))) (AP X pins σ Q) X.xe s
def tSt (st : Stmt) : TS := fun D σ H => ∀ pins s, Inv X pins σ H s → wpAny (model X.prog X.w) X.A (exec st X.env) (SP X pins D) X.xe s
def tSs (st : List Stmt) : TS := fun D σ H => ∀ pins s, Inv X pins σ H s → wpAny (model X.prog X.w) X.A (execs st X.env) (SP X pins D) X.xe s
end
section
variable {X : Cx} {e : Expr} {es : List Expr} {st : Stmt} {sts : List Stmt}
theorem pE : PE X e (tE X e) := ⟨fun pins s _ _ _ I h => h pins s I⟩
theorem pT : PT X e (tT X e) := ⟨fun pins s _ _ _ I h => h pins s I⟩
theorem pW : PW X e (tW X e) := ⟨fun whole pins s _ _ _ I h => h whole pins s I⟩
theorem pA : PA X es (tA X es) := ⟨fun pos pins s _ _ _ I h => h pos pins s I⟩
theorem pS : PS X st (tSt X st) := ⟨fun pins s _ _ _ I h => h pins s I⟩
theorem pSs : PSs X sts (tSs X sts) := ⟨fun pins s _ _ _ I h => h pins s I⟩
theorem PE.to {t : TE} (p : PE X e t) {σ : L2.St} {H : Hp} {Q : VK} (h : t σ H Q) : tE X e σ H Q := fun pins s I => p.run pins s σ H Q I h
theorem PT.to {t : TT} (p : PT X e t) {σ : L2.St} {H : Hp} {Q : Bool → Hp → Prop} (h : t σ H Q) : tT X e σ H Q := fun pins s I => p.run pins s σ H Q I h
theorem PW.to {t : TT} (p : PW X e t) {σ : L2.St} {H : Hp} {Q : Bool → Hp → Prop} (h : t σ H Q) : tW X e σ H Q := fun whole pins s I => p.run whole pins s σ H Q I h
theorem PA.to {t : TA} (p : PA X es t) {σ : L2.St} {H : Hp} {Q : List V → Hp → Prop} (h : t σ H Q) : tA X es σ H Q := fun pos pins s I => p.run pos pins s σ H Q I h
theorem PS.to {t : TS} (p : PS X st t) {σ : L2.St} {H : Hp} {D : Ends} (h : t D σ H) : tSt X st D σ H := fun pins s I => p.run pins s σ H D I h
theorem PSs.to {t : TS} (p : PSs X sts t) {σ : L2.St} {H : Hp} {D : Ends} (h : t D σ H) : tSs X sts D σ H := fun pins s I => p.run pins s σ H D I h
end

/-! ### what an operand is read as -/
inductive AD where
  /-- frozen data -/
  | d (x : D)
  /-- a list as it stands now -/
  | l (xs : List D)
def AD.ok (K : PySem.W.Frag) (F H : Hp) (v : V) : AD → Prop
  | .d x => Dp K F v x
  | .l xs => ∃ p vs, v = .ref p ∧ SqL K H p vs ∧ DpAll K F vs xs
/-- as data -/
def AD.dat : AD → D
  | .d x => x
  | .l xs => .list xs
theorem AD.ok.ext {K : PySem.W.Frag} {F H F' H' : Hp} {v : V} {k : AD} (x : Ext F H F' H') (h : k.ok K F H v) : k.ok K F' H' v := by
  cases k with
  | d y => exact Dp.mono x.ff h
  | l xs =>
    obtain ⟨p, vs, e, q, r⟩ := h
    exact ⟨p, vs, e, x.hh.seq q, DpAll.mono x.ff r⟩
theorem AD.ok.lst {K : PySem.W.Frag} {F H : Hp} {v : V} {ds : List D} {k : AD} (s : Same F H) (e : k.dat = .list ds) (h : k.ok K F H v) : ∃ p vs, v = .ref p ∧ SqL K H p vs ∧ DpAll K F vs ds := by
  cases k with
  | d y =>
    cases (show y = .list ds from e)
    obtain ⟨p, vs, e, a, b⟩ := dp_lst h
    exact ⟨p, vs, e, s.seq a, b⟩
  | l xs =>
    cases (show PyData.list xs = .list ds from e)
    exact h
theorem AD.ok.same {K : PySem.W.Frag} {F H : Hp} {v : V} {k : AD} (s : Same F H) (h : k.ok K F H v) : Dp K H v k.dat := by
  cases k with
  | d y => exact Dp.mono s h
  | l xs =>
    obtain ⟨p, vs, rfl, q, r⟩ := h
    exact .lst q (DpAll.mono s r)
def AdAll (K : PySem.W.Frag) (F H : Hp) : List V → List AD → Prop
  | [], [] => True
  | v :: vs, k :: ks => k.ok K F H v ∧ AdAll K F H vs ks
  | _, _ => False
theorem AdAll.ext {K : PySem.W.Frag} {F H F' H' : Hp} (x : Ext F H F' H') : ∀ {vs : List V} {ks : List AD}, AdAll K F H vs ks → AdAll K F' H' vs ks
  | [], [], _ => trivial
  | _ :: _, _ :: _, h => ⟨h.1.ext x, AdAll.ext x h.2⟩
  | [], _ :: _, h => h.elim
  | _ :: _, [], h => h.elim

/-! ### the judgements -/
section
variable (X : Cx) {α β S R : Type}
/-- e is read as m says, nothing is changed -/
abbrev PV0 (ρ : Rho) (e : Expr) (m : Option α) (f : α → AD) : Prop :=
  ∀ a, m = some a → ∀ (σ : L2.St) (F H : Hp), Rel X.K ρ σ F H → ∀ Q : VK, (∀ v F' H', Ext F H F' H' → (f a).ok X.K F' H' v → Q v H') → tE X e σ H Q
structure PV (ρ : Rho) (e : Expr) (m : Option α) (f : α → AD) : Prop where
  run : PV0 X ρ e m f
instance (ρ : Rho) (e : Expr) (m : Option α) (f : α → AD) : CoeFun (PV X ρ e m f) (fun _ => PV0 X ρ e m f) := ⟨fun h => h.run⟩
/-- e is a new list -/
abbrev PN0 (ρ : Rho) (e : Expr) (m : Option α) (f : α → List D) : Prop :=
  ∀ a, m = some a → ∀ (σ : L2.St) (F H : Hp), Rel X.K ρ σ F H → ∀ Q : VK, (∀ p vs F' H', Ext F H F' H' → H p = none → H' p = some (.lst vs) → F' p = none → DpAll X.K F' vs (f a) → Q (.ref p) H') → tE X e σ H Q
structure PN (ρ : Rho) (e : Expr) (m : Option α) (f : α → List D) : Prop where
  run : PN0 X ρ e m f
instance (ρ : Rho) (e : Expr) (m : Option α) (f : α → List D) : CoeFun (PN X ρ e m f) (fun _ => PN0 X ρ e m f) := ⟨fun h => h.run⟩
/-- arguments -/
abbrev PAr0 (ρ : Rho) (es : List Expr) (m : Option α) (f : α → List AD) : Prop :=
  ∀ a, m = some a → ∀ (σ : L2.St) (F H : Hp), Rel X.K ρ σ F H → ∀ Q : List V → Hp → Prop, (∀ vs F' H', Ext F H F' H' → AdAll X.K F' H' vs (f a) → Q vs H') → tA X es σ H Q
structure PAr (ρ : Rho) (es : List Expr) (m : Option α) (f : α → List AD) : Prop where
  run : PAr0 X ρ es m f
instance (ρ : Rho) (es : List Expr) (m : Option α) (f : α → List AD) : CoeFun (PAr X ρ es m f) (fun _ => PAr0 X ρ es m f) := ⟨fun h => h.run⟩
/-- a test -/
abbrev PTe0 (ρ : Rho) (e : Expr) (m : Option Bool) : Prop :=
  ∀ a, m = some a → ∀ (σ : L2.St) (F H : Hp), Rel X.K ρ σ F H → ∀ Q : Bool → Hp → Prop, (∀ F' H', Ext F H F' H' → Q a H') → tT X e σ H Q
structure PTe (ρ : Rho) (e : Expr) (m : Option Bool) : Prop where
  run : PTe0 X ρ e m
instance (ρ : Rho) (e : Expr) (m : Option Bool) : CoeFun (PTe X ρ e m) (fun _ => PTe0 X ρ e m) := ⟨fun h => h.run⟩
/-- a test that is an and, an or (whatever its whole is) -/
abbrev PWe0 (ρ : Rho) (e : Expr) (m : Option Bool) : Prop :=
  ∀ a, m = some a → ∀ (σ : L2.St) (F H : Hp), Rel X.K ρ σ F H → ∀ Q : Bool → Hp → Prop, (∀ F' H', Ext F H F' H' → Q a H') → tW X e σ H Q
structure PWe (ρ : Rho) (e : Expr) (m : Option Bool) : Prop where
  run : PWe0 X ρ e m
instance (ρ : Rho) (e : Expr) (m : Option Bool) : CoeFun (PWe X ρ e m) (fun _ => PWe0 X ρ e m) := ⟨fun h => h.run⟩
/-- with effects on the own lists: S is their state, E the slots by it -/
abbrev EV0 (ρ : Rho) (E : S → Rho) (e : Expr) (m : Option (α × S)) (f : α → D) : Prop :=
  ∀ r, m = some r → ∀ (σ : L2.St) (F H : Hp), Rel X.K ρ σ F H → ∀ Q : VK, (∀ v F' H', Rel X.K (E r.2) σ F' H' → Fr ρ σ F H (E r.2) σ F' H' → Dp X.K F' v (f r.1) → Q v H') → tE X e σ H Q
structure EV (ρ : Rho) (E : S → Rho) (e : Expr) (m : Option (α × S)) (f : α → D) : Prop where
  run : EV0 X ρ E e m f
instance (ρ : Rho) (E : S → Rho) (e : Expr) (m : Option (α × S)) (f : α → D) : CoeFun (EV X ρ E e m f) (fun _ => EV0 X ρ E e m f) := ⟨fun h => h.run⟩
abbrev EN0 (ρ : Rho) (E : S → Rho) (e : Expr) (m : Option (α × S)) (f : α → List D) : Prop :=
  ∀ r, m = some r → ∀ (σ : L2.St) (F H : Hp), Rel X.K ρ σ F H → ∀ Q : VK, (∀ p vs F' H', Rel X.K (E r.2) σ F' H' → Fr ρ σ F H (E r.2) σ F' H' → H p = none → H' p = some (.lst vs) → F' p = none → ¬ owns (E r.2) σ p → DpAll X.K F' vs (f r.1) → Q (.ref p) H') → tE X e σ H Q
structure EN (ρ : Rho) (E : S → Rho) (e : Expr) (m : Option (α × S)) (f : α → List D) : Prop where
  run : EN0 X ρ E e m f
instance (ρ : Rho) (E : S → Rho) (e : Expr) (m : Option (α × S)) (f : α → List D) : CoeFun (EN X ρ E e m f) (fun _ => EN0 X ρ E e m f) := ⟨fun h => h.run⟩
abbrev EAr0 (ρ : Rho) (E : S → Rho) (es : List Expr) (m : Option (α × S)) (f : α → List D) : Prop :=
  ∀ r, m = some r → ∀ (σ : L2.St) (F H : Hp), Rel X.K ρ σ F H → ∀ Q : List V → Hp → Prop, (∀ vs F' H', Rel X.K (E r.2) σ F' H' → Fr ρ σ F H (E r.2) σ F' H' → DpAll X.K F' vs (f r.1) → Q vs H') → tA X es σ H Q
structure EAr (ρ : Rho) (E : S → Rho) (es : List Expr) (m : Option (α × S)) (f : α → List D) : Prop where
  run : EAr0 X ρ E es m f
instance (ρ : Rho) (E : S → Rho) (es : List Expr) (m : Option (α × S)) (f : α → List D) : CoeFun (EAr X ρ E es m f) (fun _ => EAr0 X ρ E es m f) := ⟨fun h => h.run⟩
abbrev ETe0 (ρ : Rho) (E : S → Rho) (e : Expr) (m : Option (Bool × S)) : Prop :=
  ∀ r, m = some r → ∀ (σ : L2.St) (F H : Hp), Rel X.K ρ σ F H → ∀ Q : Bool → Hp → Prop, (∀ F' H', Rel X.K (E r.2) σ F' H' → Fr ρ σ F H (E r.2) σ F' H' → Q r.1 H') → tT X e σ H Q
structure ETe (ρ : Rho) (E : S → Rho) (e : Expr) (m : Option (Bool × S)) : Prop where
  run : ETe0 X ρ E e m
instance (ρ : Rho) (E : S → Rho) (e : Expr) (m : Option (Bool × S)) : CoeFun (ETe X ρ E e m) (fun _ => ETe0 X ρ E e m) := ⟨fun h => h.run⟩
abbrev EWe0 (ρ : Rho) (E : S → Rho) (e : Expr) (m : Option (Bool × S)) : Prop :=
  ∀ r, m = some r → ∀ (σ : L2.St) (F H : Hp), Rel X.K ρ σ F H → ∀ Q : Bool → Hp → Prop, (∀ F' H', Rel X.K (E r.2) σ F' H' → Fr ρ σ F H (E r.2) σ F' H' → Q r.1 H') → tW X e σ H Q
structure EWe (ρ : Rho) (E : S → Rho) (e : Expr) (m : Option (Bool × S)) : Prop where
  run : EWe0 X ρ E e m
instance (ρ : Rho) (E : S → Rho) (e : Expr) (m : Option (Bool × S)) : CoeFun (EWe X ρ E e m) (fun _ => EWe0 X ρ E e m) := ⟨fun h => h.run⟩
/-- how a block is left, but for its end; bs: the lent lists as they are then -/
inductive Fin where
  /-- return of data -/
  | rt (d : D) (bs : List (Addr × List D))
  /-- return of a new list -/
  | rn (ds : List D) (bs : List (Addr × List D))
  | bk (ρ : Rho)
/-- a frame where the slots are no more asked -/
structure Fx (ρ : Rho) (σ : L2.St) (F H F' H' : Hp) : Prop where
  sub : Same F' H'
  ff : Same F F'
  hh : ∀ b o, H b = some o → ¬ owns ρ σ b → H' b = some o
  nw : ∀ b o, F' b = some o → F b = some o ∨ H b = none ∨ owns ρ σ b
def Lent (K : PySem.W.Frag) (F H : Hp) (bs : List (Addr × List D)) : Prop := ∀ q ∈ bs, ∃ vs, H q.1 = some (.lst vs) ∧ F q.1 = none ∧ DpAll K F vs q.2
def FinOk (ρ : Rho) (σ : L2.St) (F H : Hp) (De : Ends) : Fin → Prop
  | .rt d bs => ∀ v F' H', Fx ρ σ F H F' H' → Lent X.K F' H' bs → Dp X.K F' v d → De.rt v H'
  | .rn ds bs => ∀ p vs F' H', Fx ρ σ F H F' H' → Lent X.K F' H' bs → (H p = none ∨ owns ρ σ p) → H' p = some (.lst vs) → F' p = none → (∀ q ∈ bs, q.1 ≠ p) → DpAll X.K F' vs ds → De.rt (.ref p) H'
  | .bk ρ' => ∀ σ' F' H', Rel X.K ρ' σ' F' H' → Fr ρ σ F H ρ' σ' F' H' → De.bk σ' H'
def SOk (ρ : Rho) (σ : L2.St) (F H : Hp) (De : Ends) (E : S → Rho) (fr : R → Fin) : Sum S R → Prop
  | .inl s => ∀ σ' F' H', Rel X.K (E s) σ' F' H' → Fr ρ σ F H (E s) σ' F' H' → De.nx σ' H'
  | .inr r => FinOk X ρ σ F H De (fr r)
/-- a block; a statement -/
abbrev SV0 (ρ : Rho) (sts : List Stmt) (m : Option (Sum S R)) (E : S → Rho) (fr : R → Fin) : Prop :=
  ∀ r, m = some r → ∀ (σ : L2.St) (F H : Hp), Rel X.K ρ σ F H → ∀ De : Ends, SOk X ρ σ F H De E fr r → tSs X sts De σ H
structure SV (ρ : Rho) (sts : List Stmt) (m : Option (Sum S R)) (E : S → Rho) (fr : R → Fin) : Prop where
  run : SV0 X ρ sts m E fr
instance (ρ : Rho) (sts : List Stmt) (m : Option (Sum S R)) (E : S → Rho) (fr : R → Fin) : CoeFun (SV X ρ sts m E fr) (fun _ => SV0 X ρ sts m E fr) := ⟨fun h => h.run⟩
abbrev S10 (ρ : Rho) (st : Stmt) (m : Option (Sum S R)) (E : S → Rho) (fr : R → Fin) : Prop :=
  ∀ r, m = some r → ∀ (σ : L2.St) (F H : Hp), Rel X.K ρ σ F H → ∀ De : Ends, SOk X ρ σ F H De E fr r → tSt X st De σ H
structure S1 (ρ : Rho) (st : Stmt) (m : Option (Sum S R)) (E : S → Rho) (fr : R → Fin) : Prop where
  run : S10 X ρ st m E fr
instance (ρ : Rho) (st : Stmt) (m : Option (Sum S R)) (E : S → Rho) (fr : R → Fin) : CoeFun (S1 X ρ st m E fr) (fun _ => S10 X ρ st m E fr) := ⟨fun h => h.run⟩
end
/-- one after the other -/
def sq {S S' R : Type} (m : Option (Sum S R)) (k : S → Option (Sum S' R)) : Option (Sum S' R) :=
  match m with
  | none => none
  | some (.inl s) => k s
  | some (.inr r) => some (.inr r)

/-! ### encoders -/
section
variable {α β γ δ : Type}
def dI : Int → D := .int
def dB : Bool → D := .bool
def dS : Str → D := .str
def dU : Unit → D := fun _ => .none
def dL (f : α → D) (xs : List α) : D := .list (xs.map f)
/-- a tuple of any length -/
def dT (f : α → D) (xs : List α) : D := .tuple (xs.map f)
def d2 (f : α → D) (g : β → D) (p : α × β) : D := .tuple [f p.1, g p.2]
def d3 (f : α → D) (g : β → D) (h : γ → D) (p : α × β × γ) : D := .tuple [f p.1, g p.2.1, h p.2.2]
def d4 (f : α → D) (g : β → D) (h : γ → D) (k : δ → D) (p : α × β × γ × δ) : D := .tuple [f p.1, g p.2.1, h p.2.2.1, k p.2.2.2]
/-- or None -/
def dO (f : α → D) : Option α → D
  | none => .none
  | some a => f a
/-- as it is -/
def dA : D → D := fun d => d
def aD (f : α → D) : α → AD := fun a => .d (f a)
def aL (f : α → D) : List α → AD := fun xs => .l (xs.map f)
end

/-! ### a value's operations -/
section
variable (X : Cx) {α β γ : Type}
def OpAt (f : Value → Value → Sem Value) (x y : V) (H : Hp) (Q : VK) : Prop :=
  ∀ (pins : List (Addr × Obj)) (s : Shared) (σ : L2.St) (v u : Value), Inv X pins σ H s → RelV x v → RelV y u → wpAny (model X.prog X.w) X.A (f v u) (EP X pins σ Q) X.xe s
/-- a two-place operation: its value is data -/
def OpV (f : Value → Value → Sem Value) (f1 : α → AD) (f2 : β → AD) (g : α → β → Option γ) (f3 : γ → D) : Prop :=
  ∀ a b c, g a b = some c → ∀ (F H : Hp) (x y : V) (Q : VK), Same F H → (f1 a).ok X.K F H x → (f2 b).ok X.K F H y → (∀ v F' H', Ext F H F' H' → Dp X.K F' v (f3 c) → Q v H') → OpAt X f x y H Q
/-- its value is a new list -/
def OpN (f : Value → Value → Sem Value) (f1 : α → AD) (f2 : β → AD) (g : α → β → Option γ) (f3 : γ → List D) : Prop :=
  ∀ a b c, g a b = some c → ∀ (F H : Hp) (x y : V) (Q : VK), Same F H → (f1 a).ok X.K F H x → (f2 b).ok X.K F H y →
    (∀ p vs F' H', Ext F H F' H' → H p = none → H' p = some (.lst vs) → F' p = none → DpAll X.K F' vs (f3 c) → Q (.ref p) H') → OpAt X f x y H Q
end
section
variable {X : Cx} {α β γ : Type}
theorem OpR.at_ {f : Value → Value → Sem Value} {r : R2} (h : OpR X f r) {x y : V} {H : Hp} {Q : VK} (q : r x y H Q) : OpAt X f x y H Q :=
  fun pins s σ v u I rx ry => h pins s σ H x y v u Q I rx ry q
/-- a value that needs no heap -/
theorem OpV.flat {f : Value → Value → Sem Value} {r : R2} {f1 : α → AD} {f2 : β → AD} {g : α → β → Option γ} {f3 : γ → D} (ho : OpR X f r)
    (h : ∀ a b c, g a b = some c → ∀ (F H : Hp) (x y : V), Same F H → (f1 a).ok X.K F H x → (f2 b).ok X.K F H y → ∃ z, (∀ F', Dp X.K F' z (f3 c)) ∧ ∀ Q : VK, Q z H → r x y H Q) : OpV X f f1 f2 g f3 :=
  fun a b c e F H x y Q s hx hy q => by
    obtain ⟨z, hz, k⟩ := h a b c e F H x y s hx hy
    exact OpR.at_ ho (k Q (q z F H (Ext.refl s) (hz F)))

/-! numbers -/
def addI (x y : Int) : Option Int := some (x + y)
def subI (x y : Int) : Option Int := some (x - y)
def mulI (x y : Int) : Option Int := if x.natAbs.log2 + y.natAbs.log2 < 1000000 then some (x * y) else none
def divI (x y : Int) : Option Int := if y ≠ 0 ∧ y.natAbs.log2 < 9000 then some (x.fdiv y) else none
def modI (x y : Int) : Option Int := if y ≠ 0 then some (x.fmod y) else none
def powI (x y : Int) : Option Int := if 0 ≤ y ∧ y ≤ 1000000 ∧ x.natAbs < 2 ^ 64 then some (x ^ y.toNat) else none
theorem ov_add : OpV X (binaryOp .Add) (aD dI) (aD dI) addI dI := OpV.flat op_add fun a b c e F H x y s hx hy => by
  cases e; cases dp_int hx; cases dp_int hy
  exact ⟨_, fun _ => .int _, fun Q q => ⟨_, _, rfl, rfl, q⟩⟩
theorem ov_sub : OpV X (binaryOp .Sub) (aD dI) (aD dI) subI dI := OpV.flat op_sub fun a b c e F H x y s hx hy => by
  cases e; cases dp_int hx; cases dp_int hy
  exact ⟨_, fun _ => .int _, fun Q q => ⟨_, _, rfl, rfl, q⟩⟩
theorem ov_mul : OpV X (binaryOp .Mult) (aD dI) (aD dI) mulI dI := OpV.flat op_mulW fun a b c e F H x y s hx hy => by
  unfold mulI at e
  split at e
  · cases e; cases dp_int hx; cases dp_int hy
    rename_i hc
    exact ⟨_, fun _ => .int _, fun Q q => ⟨_, _, rfl, rfl, hc, q⟩⟩
  · cases e
theorem op_fdivWN : OpR X (binaryOp .FloorDiv) (rI (fun _ j => j ≠ 0 ∧ j.natAbs.log2 < 9000) fun i j => .int (i.fdiv j)) := opI fun i j _ _ _ _ _ hc q =>
  floordiv_int hc.1 q (.inl (PyProof.noPylong_of_log2 hc.2))
theorem ov_div : OpV X (binaryOp .FloorDiv) (aD dI) (aD dI) divI dI := OpV.flat op_fdivWN fun a b c e F H x y s hx hy => by
  unfold divI at e
  split at e
  · cases e; cases dp_int hx; cases dp_int hy
    rename_i hc
    exact ⟨_, fun _ => .int _, fun Q q => ⟨_, _, rfl, rfl, hc, q⟩⟩
  · cases e
theorem ov_mod : OpV X (binaryOp .Mod) (aD dI) (aD dI) modI dI := OpV.flat op_modN fun a b c e F H x y s hx hy => by
  unfold modI at e
  split at e
  · cases e; cases dp_int hx; cases dp_int hy
    rename_i hc
    exact ⟨_, fun _ => .int _, fun Q q => ⟨_, _, rfl, rfl, hc, q⟩⟩
  · cases e
theorem ov_pow : OpV X (binaryOp .Pow) (aD dI) (aD dI) powI dI := OpV.flat op_pow fun a b c e F H x y s hx hy => by
  unfold powI at e
  split at e
  · cases e; cases dp_int hx; cases dp_int hy
    rename_i hc
    exact ⟨_, fun _ => .int _, fun Q q => ⟨_, _, rfl, rfl, hc, q⟩⟩
  · cases e
def ltI (x y : Int) : Option Bool := some (decide (x < y))
def leI (x y : Int) : Option Bool := some (decide (x ≤ y))
def gtI (x y : Int) : Option Bool := some (decide (y < x))
def geI (x y : Int) : Option Bool := some (decide (y ≤ x))
theorem ov_lt : OpV X (compareOp .Lt) (aD dI) (aD dI) ltI dB := OpV.flat op_lt fun a b c e F H x y s hx hy => by
  cases e; cases dp_int hx; cases dp_int hy
  exact ⟨_, fun _ => .bl _, fun Q q => ⟨_, _, rfl, rfl, q⟩⟩
theorem ov_le : OpV X (compareOp .LtE) (aD dI) (aD dI) leI dB := OpV.flat op_le fun a b c e F H x y s hx hy => by
  cases e; cases dp_int hx; cases dp_int hy
  exact ⟨_, fun _ => .bl _, fun Q q => ⟨_, _, rfl, rfl, q⟩⟩
theorem ov_gt : OpV X (compareOp .Gt) (aD dI) (aD dI) gtI dB := OpV.flat op_gt fun a b c e F H x y s hx hy => by
  cases e; cases dp_int hx; cases dp_int hy
  exact ⟨_, fun _ => .bl _, fun Q q => ⟨_, _, rfl, rfl, q⟩⟩
theorem ov_ge : OpV X (compareOp .GtE) (aD dI) (aD dI) geI dB := OpV.flat op_ge fun a b c e F H x y s hx hy => by
  cases e; cases dp_int hx; cases dp_int hy
  exact ⟨_, fun _ => .bl _, fun Q q => ⟨_, _, rfl, rfl, q⟩⟩

/-! equality of data -/
structure Lw (k : Nat) {α : Type} [DecidableEq α] (f : α → D) : Prop where
  plain : ∀ a, (f a).plain = true
  depth : ∀ a, (f a).depth ≤ k
  eqv : ∀ a b, PyData.eqv (f a) (f b) = decide (a = b)
theorem lw_int : Lw 0 dI := ⟨fun _ => rfl, fun _ => Nat.le_refl _, fun a b => by show PyData.eqv (.int a) (.int b) = _; simp only [PyData.eqv]; exact PySem.W.beq_decide a b⟩
theorem lw_bool : Lw 0 dB := ⟨fun _ => rfl, fun _ => Nat.le_refl _, fun a b => by show PyData.eqv (.bool a) (.bool b) = _; simp only [PyData.eqv]; exact PySem.W.beq_decide a b⟩
theorem lw_str : Lw 0 dS := ⟨fun _ => rfl, fun _ => Nat.le_refl _, fun a b => by show PyData.eqv (.str a) (.str b) = _; simp only [PyData.eqv]; exact PySem.W.beq_decide a b⟩
section
variable [DecidableEq α] [DecidableEq β] {k j : Nat} {f : α → D} {g : β → D}
theorem lw_plainAll (L : Lw k f) : ∀ xs : List α, PyData.plainAll (xs.map f) = true
  | [] => rfl
  | x :: xs => by rw [List.map_cons, PyData.plainAll, L.plain x, lw_plainAll L xs]; rfl
theorem lw_depthAll (L : Lw k f) : ∀ xs : List α, PyData.depthAll (xs.map f) ≤ k
  | [] => Nat.zero_le _
  | x :: xs => by rw [List.map_cons, PyData.depthAll]; exact Nat.max_le.mpr ⟨L.depth x, lw_depthAll L xs⟩
theorem lw_eqvAll (L : Lw k f) : ∀ xs ys : List α, PyData.eqvAll (xs.map f) (ys.map f) = decide (xs = ys)
  | [], [] => by simp only [List.map_nil, PyData.eqvAll, decide_true]
  | [], _ :: _ => by simp [PyData.eqvAll]
  | _ :: _, [] => by simp [PyData.eqvAll]
  | x :: xs, y :: ys => by
    rw [List.map_cons, List.map_cons, PyData.eqvAll, L.eqv x y, lw_eqvAll L xs ys, ← Bool.decide_and]
    exact decide_eq_decide.mpr (by rw [List.cons.injEq])
theorem lw_list (L : Lw k f) : Lw (k + 1) (dL f) :=
  ⟨fun xs => by show (PyData.list _).plain = true; simp only [PyData.plain]; exact lw_plainAll L xs, fun xs => by show (PyData.list _).depth ≤ _; simp only [PyData.depth]; exact Nat.succ_le_succ (lw_depthAll L xs),
   fun xs ys => by show PyData.eqv (.list _) (.list _) = _; simp only [PyData.eqv]; exact lw_eqvAll L xs ys⟩
theorem lw_tup (L : Lw k f) : Lw (k + 1) (dT f) :=
  ⟨fun xs => by show (PyData.tuple _).plain = true; simp only [PyData.plain]; exact lw_plainAll L xs, fun xs => by show (PyData.tuple _).depth ≤ _; simp only [PyData.depth]; exact Nat.succ_le_succ (lw_depthAll L xs),
   fun xs ys => by show PyData.eqv (.tuple _) (.tuple _) = _; simp only [PyData.eqv]; exact lw_eqvAll L xs ys⟩
theorem lw_2 (L : Lw k f) (M : Lw j g) : Lw (max k j + 1) (d2 f g) where
  plain p := by show (PyData.tuple _).plain = true; simp only [PyData.plain, PyData.plainAll, L.plain, M.plain, Bool.and_self]
  depth p := by
    show (PyData.tuple _).depth ≤ _
    simp only [PyData.depth, PyData.depthAll]
    have h1 := L.depth p.1
    have h2 := M.depth p.2
    omega
  eqv p q := by
    show PyData.eqv (.tuple _) (.tuple _) = _
    simp only [PyData.eqv, PyData.eqvAll]
    rw [L.eqv, M.eqv, Bool.and_true, ← Bool.decide_and]
    exact decide_eq_decide.mpr ⟨fun e => Prod.ext e.1 e.2, fun e => by rw [e]; exact ⟨rfl, rfl⟩⟩
theorem lw_3 {γ : Type} [DecidableEq γ] {l : Nat} {h : γ → D} (L : Lw k f) (M : Lw j g) (N : Lw l h) : Lw (max k (max j l) + 1) (d3 f g h) where
  plain p := by show (PyData.tuple _).plain = true; simp only [PyData.plain, PyData.plainAll, L.plain, M.plain, N.plain, Bool.and_self]
  depth p := by
    show (PyData.tuple _).depth ≤ _
    simp only [PyData.depth, PyData.depthAll]
    have h1 := L.depth p.1
    have h2 := M.depth p.2.1
    have h3 := N.depth p.2.2
    omega
  eqv p q := by
    show PyData.eqv (.tuple _) (.tuple _) = _
    simp only [PyData.eqv, PyData.eqvAll]
    rw [L.eqv, M.eqv, N.eqv, Bool.and_true, ← Bool.decide_and, ← Bool.decide_and]
    exact decide_eq_decide.mpr ⟨fun e => Prod.ext e.1 (Prod.ext e.2.1 e.2.2), fun e => by rw [e]; exact ⟨rfl, rfl, rfl⟩⟩
theorem lw_4 {γ δ : Type} [DecidableEq γ] [DecidableEq δ] {l m : Nat} {h : γ → D} {i : δ → D} (L : Lw k f) (M : Lw j g) (N : Lw l h) (O : Lw m i) : Lw (max (max k j) (max l m) + 1) (d4 f g h i) where
  plain p := by show (PyData.tuple _).plain = true; simp only [PyData.plain, PyData.plainAll, L.plain, M.plain, N.plain, O.plain, Bool.and_self]
  depth p := by
    show (PyData.tuple _).depth ≤ _
    simp only [PyData.depth, PyData.depthAll]
    have h1 := L.depth p.1
    have h2 := M.depth p.2.1
    have h3 := N.depth p.2.2.1
    have h4 := O.depth p.2.2.2
    omega
  eqv p q := by
    show PyData.eqv (.tuple _) (.tuple _) = _
    simp only [PyData.eqv, PyData.eqvAll]
    rw [L.eqv, M.eqv, N.eqv, O.eqv, Bool.and_true, ← Bool.decide_and, ← Bool.decide_and, ← Bool.decide_and]
    exact decide_eq_decide.mpr ⟨fun e => Prod.ext e.1 (Prod.ext e.2.1 (Prod.ext e.2.2.1 e.2.2.2)), fun e => by rw [e]; exact ⟨rfl, rfl, rfl, rfl⟩⟩
end
/-- == of any two data: what the model says -/
def eqA (x y : D) : Option Bool := if x.plain = true ∧ y.plain = true ∧ x.depth ≤ 64 then some (PyData.eqv x y) else none
def neA (x y : D) : Option Bool := if x.plain = true ∧ y.plain = true ∧ x.depth ≤ 64 then some (!PyData.eqv x y) else none
theorem room_depth {A : Around} {d e : D} (hu : A.units + 64 < cLine) (h : d.depth ≤ 64) : A.units + min d.depth e.depth < cLine := by
  have := Nat.min_le_left d.depth e.depth
  omega
theorem opat_eq {H F : Hp} {x y : V} {k l : AD} {Q : VK} (hu : X.A.units + 64 < cLine) (s : Same F H) (hx : k.ok X.K F H x) (hy : l.ok X.K F H y) (px : k.dat.plain = true) (py : l.dat.plain = true) (hd : k.dat.depth ≤ 64)
    (q : Q (.bl (PyData.eqv k.dat l.dat)) H) : OpAt X (compareOp .Eq) x y H Q := fun pins s' σ v u I rx ry => by
  obtain ⟨as, r1⟩ := Dp.reads I _ x v (hx.same s) rx
  obtain ⟨bs, r2⟩ := Dp.reads I _ y u (hy.same s) ry
  exact SeqAt.eq_plain r1 r2 px py (room_depth hu hd) ⟨.bl _, H, I, rfl, q⟩
theorem opat_ne {H F : Hp} {x y : V} {k l : AD} {Q : VK} (hu : X.A.units + 64 < cLine) (s : Same F H) (hx : k.ok X.K F H x) (hy : l.ok X.K F H y) (px : k.dat.plain = true) (py : l.dat.plain = true) (hd : k.dat.depth ≤ 64)
    (q : Q (.bl (!PyData.eqv k.dat l.dat)) H) : OpAt X (compareOp .NotEq) x y H Q := fun pins s' σ v u I rx ry => by
  obtain ⟨as, r1⟩ := Dp.reads I _ x v (hx.same s) rx
  obtain ⟨bs, r2⟩ := Dp.reads I _ y u (hy.same s) ry
  exact SeqAt.ne_plain r1 r2 px py (room_depth hu hd) ⟨.bl _, H, I, rfl, q⟩
def eqT [DecidableEq α] (x y : α) : Option Bool := some (decide (x = y))
def neT [DecidableEq α] (x y : α) : Option Bool := some (!decide (x = y))
theorem ov_eq [DecidableEq α] {f : α → D} {f1 f2 : α → AD} {k : Nat} (L : Lw k f) (hu : X.A.units + 64 < cLine) (h1 : ∀ a, (f1 a).dat = f a := by intro _; rfl) (h2 : ∀ a, (f2 a).dat = f a := by intro _; rfl) (hk : k ≤ 64 := by decide) : OpV X (compareOp .Eq) f1 f2 eqT dB :=
  fun a b c e F H x y Q s hx hy q => by
    cases e
    refine opat_eq hu s hx hy (by rw [h1]; exact L.plain a) (by rw [h2]; exact L.plain b) (by rw [h1]; exact Nat.le_trans (L.depth a) hk) ?_
    rw [h1, h2, L.eqv]
    exact q _ F H (Ext.refl s) (.bl _)
theorem ov_ne [DecidableEq α] {f : α → D} {f1 f2 : α → AD} {k : Nat} (L : Lw k f) (hu : X.A.units + 64 < cLine) (h1 : ∀ a, (f1 a).dat = f a := by intro _; rfl) (h2 : ∀ a, (f2 a).dat = f a := by intro _; rfl) (hk : k ≤ 64 := by decide) : OpV X (compareOp .NotEq) f1 f2 neT dB :=
  fun a b c e F H x y Q s hx hy q => by
    cases e
    refine opat_ne hu s hx hy (by rw [h1]; exact L.plain a) (by rw [h2]; exact L.plain b) (by rw [h1]; exact Nat.le_trans (L.depth a) hk) ?_
    rw [h1, h2, L.eqv]
    exact q _ F H (Ext.refl s) (.bl _)
theorem ov_eqA {f1 : α → AD} {f2 : β → AD} (hu : X.A.units + 64 < cLine) : OpV X (compareOp .Eq) f1 f2 (fun a b => eqA (f1 a).dat (f2 b).dat) dB :=
  fun a b c e F H x y Q s hx hy q => by
    replace e : eqA (f1 a).dat (f2 b).dat = some c := e
    unfold eqA at e
    split at e
    · cases e
      rename_i h
      exact opat_eq hu s hx hy h.1 h.2.1 h.2.2 (q _ F H (Ext.refl s) (.bl _))
    · cases e
theorem ov_neA {f1 : α → AD} {f2 : β → AD} (hu : X.A.units + 64 < cLine) : OpV X (compareOp .NotEq) f1 f2 (fun a b => neA (f1 a).dat (f2 b).dat) dB :=
  fun a b c e F H x y Q s hx hy q => by
    replace e : neA (f1 a).dat (f2 b).dat = some c := e
    unfold neA at e
    split at e
    · cases e
      rename_i h
      exact opat_ne hu s hx hy h.1 h.2.1 h.2.2 (q _ F H (Ext.refl s) (.bl _))
    · cases e

/-! in, not in -/
def AD.seq? : AD → Option (List D)
  | .d (.list xs) => some xs
  | .d (.tuple xs) => some xs
  | .l xs => some xs
  | _ => none
theorem opat_in {H F : Hp} {x y : V} {k l : AD} {ds : List D} {Q : VK} (hu : X.A.units + 64 < cLine) (s : Same F H) (hx : k.ok X.K F H x) (hy : l.ok X.K F H y) (hl : l.seq? = some ds) (px : k.dat.plain = true) (py : PyData.plainAll ds = true) (hd : k.dat.depth ≤ 60)
    (q : Q (.bl (ds.any fun y => PyData.eqv y k.dat)) H) : OpAt X (compareOp .In) x y H Q := fun pins s' σ v u I rx ry => by
  obtain ⟨as, r1⟩ := Dp.reads I _ x v (hx.same s) rx
  obtain ⟨bs, r2⟩ := Dp.reads I _ y u (hy.same s) ry
  have hm : X.A.units + 1 + min (PyData.depthAll ds) k.dat.depth < cLine := by
    have := Nat.min_le_right (PyData.depthAll ds) k.dat.depth
    omega
  cases l with
  | d z =>
    cases z with
    | list zs => cases hl; exact SeqAt.in_list_data r2 r1 py px hm ⟨.bl _, H, I, rfl, q⟩
    | tuple zs => cases hl; exact SeqAt.in_tuple_data r2 r1 py px hm ⟨.bl _, H, I, rfl, q⟩
    | _ => cases hl
  | l zs => cases hl; exact SeqAt.in_list_data r2 r1 py px hm ⟨.bl _, H, I, rfl, q⟩
theorem opat_notIn {H F : Hp} {x y : V} {k l : AD} {ds : List D} {Q : VK} (hu : X.A.units + 64 < cLine) (s : Same F H) (hx : k.ok X.K F H x) (hy : l.ok X.K F H y) (hl : l.seq? = some ds) (px : k.dat.plain = true) (py : PyData.plainAll ds = true) (hd : k.dat.depth ≤ 60)
    (q : Q (.bl (!ds.any fun y => PyData.eqv y k.dat)) H) : OpAt X (compareOp .NotIn) x y H Q := fun pins s' σ v u I rx ry => by
  obtain ⟨as, r1⟩ := Dp.reads I _ x v (hx.same s) rx
  obtain ⟨bs, r2⟩ := Dp.reads I _ y u (hy.same s) ry
  have hm : X.A.units + 1 + min (PyData.depthAll ds) k.dat.depth < cLine := by
    have := Nat.min_le_right (PyData.depthAll ds) k.dat.depth
    omega
  cases l with
  | d z =>
    cases z with
    | list zs => cases hl; exact SeqAt.notIn_list_data r2 r1 py px hm ⟨.bl _, H, I, rfl, q⟩
    | tuple zs => cases hl; exact SeqAt.notIn_tuple_data r2 r1 py px hm ⟨.bl _, H, I, rfl, q⟩
    | _ => cases hl
  | l zs => cases hl; exact SeqAt.notIn_list_data r2 r1 py px hm ⟨.bl _, H, I, rfl, q⟩
theorem any_map [DecidableEq α] {f : α → D} {k : Nat} (L : Lw k f) (xs : List α) (x : α) : ((xs.map f).any fun d => PyData.eqv d (f x)) = decide (x ∈ xs) := by
  rw [List.any_map, Bool.eq_iff_iff, List.any_eq_true, decide_eq_true_eq]
  constructor
  · rintro ⟨y, hy, e⟩
    have e' : PyData.eqv (f y) (f x) = true := e
    rw [L.eqv, decide_eq_true_eq] at e'
    exact e' ▸ hy
  · intro h
    exact ⟨x, h, by show PyData.eqv (f x) (f x) = true; rw [L.eqv, decide_eq_true_eq]⟩
def inB [DecidableEq α] (x : α) (xs : List α) : Bool := decide (x ∈ xs)
def inT [DecidableEq α] (x : α) (xs : List α) : Option Bool := some (inB x xs)
def notInT [DecidableEq α] (x : α) (xs : List α) : Option Bool := some (!inB x xs)
theorem ov_in [DecidableEq α] {f : α → D} {f1 : α → AD} {f2 : List α → AD} {k : Nat} (L : Lw k f) (hu : X.A.units + 64 < cLine) (h1 : ∀ a, (f1 a).dat = f a := by intro _; rfl) (h2 : ∀ xs, (f2 xs).seq? = some (xs.map f) := by intro _; rfl) (hk : k ≤ 60 := by decide) :
    OpV X (compareOp .In) f1 f2 inT dB :=
  fun a b c e F H x y Q s hx hy q => by
    cases e
    refine opat_in hu s hx hy (h2 b) (by rw [h1]; exact L.plain a) (lw_plainAll L b) (by rw [h1]; exact Nat.le_trans (L.depth a) hk) ?_
    rw [h1, any_map L]
    exact q _ F H (Ext.refl s) (.bl _)
theorem ov_notIn [DecidableEq α] {f : α → D} {f1 : α → AD} {f2 : List α → AD} {k : Nat} (L : Lw k f) (hu : X.A.units + 64 < cLine) (h1 : ∀ a, (f1 a).dat = f a := by intro _; rfl) (h2 : ∀ xs, (f2 xs).seq? = some (xs.map f) := by intro _; rfl) (hk : k ≤ 60 := by decide) :
    OpV X (compareOp .NotIn) f1 f2 notInT dB :=
  fun a b c e F H x y Q s hx hy q => by
    cases e
    refine opat_notIn hu s hx hy (h2 b) (by rw [h1]; exact L.plain a) (lw_plainAll L b) (by rw [h1]; exact Nat.le_trans (L.depth a) hk) ?_
    rw [h1, any_map L]
    exact q _ F H (Ext.refl s) (.bl _)
end

/-! ### expressions -/
section
variable {X : Cx} {α β γ δ : Type} {ρ : Rho} {a b c e : Expr} {pos : Pos}
theorem PV.conv {m : Option α} {f f' : α → AD} (h : PV X ρ e m f) (k : ∀ x, f x = f' x) : PV X ρ e m f' := .mk fun x ex σ F H R Q q => h x ex σ F H R Q fun v F' H' x' d => q v F' H' x' (by rw [← k]; exact d)
/-- a value changed by a function -/
theorem PV.map {m : Option α} {f : α → AD} {f' : β → AD} (g : α → Option β) (h : PV X ρ e m f) (k : ∀ x y, g x = some y → ∀ K F H v, Same F H → (f x).ok K F H v → (f' y).ok K F H v) : PV X ρ e (m.bind g) f' := .mk fun y ey σ F H R Q q => by
  cases hm : m with
  | none => rw [hm] at ey; cases ey
  | some x =>
    rw [hm] at ey
    exact h x hm σ F H R Q fun v F' H' x' d => q v F' H' x' (k x y ey _ _ _ _ x'.fh d)
theorem bind_some {m : Option α} {k : α → Option β} {y : β} (h : m.bind k = some y) : ∃ x, m = some x ∧ k x = some y := by
  cases m with
  | none => cases h
  | some x => exact ⟨x, rfl, h⟩

/-! names, constants -/
theorem pv_val {i : Nat} {x : Str} {f : α → D} {z : α} (hρ : ρ[i]? = some (.val (f z))) (hN : X.N[i]? = some x) (hv : Vis X.env.scope x) (hd : (x == ("__debug__" : Str)) = false := by decide) (hcd : (x == ("__classdict__" : Str)) = false := by decide) :
    PV X ρ (.Name x pos) (some z) (aD f) := .mk fun z' ez σ F H R Q q => by
  cases ez
  obtain ⟨v, e1, r⟩ := R.at_ i _ hρ
  exact PE.to (pe_var hN hv hd hcd) ⟨v, e1, q v F H (Ext.refl R.sub) r⟩
theorem pv_own {i : Nat} {x : Str} {f : α → D} {z : List α} (hρ : ρ[i]? = some (.own (z.map f))) (hN : X.N[i]? = some x) (hv : Vis X.env.scope x) (hd : (x == ("__debug__" : Str)) = false := by decide) (hcd : (x == ("__classdict__" : Str)) = false := by decide) :
    PV X ρ (.Name x pos) (some z) (aL f) := .mk fun z' ez σ F H R Q q => by
  cases ez
  obtain ⟨p, vs, e1, hp, hf, r⟩ := R.at_ i _ hρ
  exact PE.to (pe_var hN hv hd hcd) ⟨.ref p, e1, q (.ref p) F H (Ext.refl R.sub) ⟨p, vs, rfl, SqL.of hp, r⟩⟩
theorem pv_brw {i : Nat} {x : Str} {f : α → D} {z : List α} {p : Addr} (hρ : ρ[i]? = some (.brw p (z.map f))) (hN : X.N[i]? = some x) (hv : Vis X.env.scope x) (hd : (x == ("__debug__" : Str)) = false := by decide) (hcd : (x == ("__classdict__" : Str)) = false := by decide) :
    PV X ρ (.Name x pos) (some z) (aL f) := .mk fun z' ez σ F H R Q q => by
  cases ez
  obtain ⟨vs, e1, hp, hf, r⟩ := R.at_ i _ hρ
  exact PE.to (pe_var hN hv hd hcd) ⟨.ref p, e1, q (.ref p) F H (Ext.refl R.sub) ⟨p, vs, rfl, SqL.of hp, r⟩⟩
theorem pv_c {v : V} {z : α} {f : α → D} (h : PE X e (tC v)) (hd : ∀ K F, Dp K F v (f z)) : PV X ρ e (some z) (aD f) := .mk fun z' ez σ F H R Q q => by
  cases ez
  exact PE.to h (q v F H (Ext.refl R.sub) (hd _ _))
theorem pv_int {i : Int} {j} : PV X ρ (.Constant (.int i) j pos) (some i) (aD dI) := pv_c pe_int fun _ _ => .int i
theorem pv_bool {i : Bool} {j} : PV X ρ (.Constant (.bool i) j pos) (some i) (aD dB) := pv_c pe_bl fun _ _ => .bl i
theorem pv_none {j} : PV X ρ (.Constant .none j pos) (some ()) (aD dU) := pv_c pe_non fun _ _ => .non
theorem pv_str {i : Str} {j} : PV X ρ (.Constant (.str i) j pos) (some i) (aD dS) := pv_c pe_str fun _ _ => .str i
/-- a module's constant that is data of the written part -/
theorem pv_glob {x : Str} {v : V} {u : Value} {z : α} {f : α → D} (hg : Gl X x) (hm : X.mg x = some u) (r : RelV v u) (hd : ∀ F, Dp X.K F v (f z)) (hdb : (x == ("__debug__" : Str)) = false := by decide) : PV X ρ (.Name x pos) (some z) (aD f) := .mk fun z' ez σ F H R Q q => by
  cases ez
  exact PE.to (pe_glob hg hm r hdb) (q v F H (Ext.refl R.sub) (hd _))

/-! operators -/
theorem opR_at {f : Value → Value → Sem Value} : OpR X f (fun x y H Q => OpAt X f x y H Q) := fun pins s σ H x y v u Q I rx ry h => h pins s σ v u I rx ry
theorem pv_op {op : Operator} {f1 : α → AD} {f2 : β → AD} {g : α → β → Option γ} {f3 : γ → D} {ma : Option α} {mb : Option β} (ho : OpV X (binaryOp op) f1 f2 g f3) (ha : PV X ρ a ma f1) (hb : PV X ρ b mb f2) :
    PV X ρ (.BinOp a op b pos) (ma.bind fun x => mb.bind fun y => g x y) (aD f3) := .mk fun z ez σ F H R Q q => by
  obtain ⟨x, ex, ez⟩ := bind_some ez
  obtain ⟨y, ey, ez⟩ := bind_some ez
  refine PE.to (pe_op opR_at pE pE) ?_
  exact ha x ex σ F H R _ fun v F1 H1 x1 d1 => hb y ey σ F1 H1 (R.ext x1) _ fun u F2 H2 x2 d2 =>
    ho x y z ez F2 H2 v u Q x2.fh (d1.ext x2) d2 fun w F' H' x3 d3 => q w F' H' (x1.trans (x2.trans x3)) d3
theorem pn_op {op : Operator} {f1 : α → AD} {f2 : β → AD} {g : α → β → Option γ} {f3 : γ → List D} {ma : Option α} {mb : Option β} (ho : OpN X (binaryOp op) f1 f2 g f3) (ha : PV X ρ a ma f1) (hb : PV X ρ b mb f2) :
    PN X ρ (.BinOp a op b pos) (ma.bind fun x => mb.bind fun y => g x y) f3 := .mk fun z ez σ F H R Q q => by
  obtain ⟨x, ex, ez⟩ := bind_some ez
  obtain ⟨y, ey, ez⟩ := bind_some ez
  refine PE.to (pe_op opR_at pE pE) ?_
  exact ha x ex σ F H R _ fun v F1 H1 x1 d1 => hb y ey σ F1 H1 (R.ext x1) _ fun u F2 H2 x2 d2 =>
    ho x y z ez F2 H2 v u Q x2.fh (d1.ext x2) d2 fun p vs F' H' x3 hn hp hf d3 => q p vs F' H' (x1.trans (x2.trans x3)) (x1.hh.free (x2.hh.free hn)) hp hf d3
/-- a new list is frozen at once -/
theorem PN.pv {m : Option α} {f : α → List D} (h : PN X ρ e m f) : PV X ρ e m (fun x => .d (.list (f x))) := .mk fun z ez σ F H R Q q =>
  h z ez σ F H R Q fun p vs F' H' x hn hp hf d => q _ _ _ (x.froze hp hn hf) (show Dp _ _ _ (PyData.list _) from Dp.lst (SqL.of upd_same) (DpAll.mono (same_upd hf _) d))
theorem pv_list {m : Option (List α)} {f : α → D} (h : PN X ρ e m (fun xs => xs.map f)) : PV X ρ e m (aD (dL f)) := PN.pv h
theorem pv_cmp {op : CmpOp} {f1 : α → AD} {f2 : β → AD} {g : α → β → Option γ} {f3 : γ → D} {ma : Option α} {mb : Option β} (ho : OpV X (compareOp op) f1 f2 g f3) (ha : PV X ρ a ma f1) (hb : PV X ρ b mb f2) (hm : behindInMarks op b = false) :
    PV X ρ (.Compare a [op] [b] pos) (ma.bind fun x => mb.bind fun y => g x y) (aD f3) := .mk fun z ez σ F H R Q q => by
  obtain ⟨x, ex, ez⟩ := bind_some ez
  obtain ⟨y, ey, ez⟩ := bind_some ez
  refine PE.to (pe_cmpR opR_at pE pE hm) ?_
  exact ha x ex σ F H R _ fun v F1 H1 x1 d1 => hb y ey σ F1 H1 (R.ext x1) _ fun u F2 H2 x2 d2 =>
    ho x y z ez F2 H2 v u Q x2.fh (d1.ext x2) d2 fun w F' H' x3 d3 => q w F' H' (x1.trans (x2.trans x3)) d3
theorem pt_cmp' {op : CmpOp} {f1 : α → AD} {f2 : β → AD} {g : α → β → Option Bool} {ma : Option α} {mb : Option β} (ho : OpV X (compareOp op) f1 f2 g dB) (ha : PV X ρ a ma f1) (hb : PV X ρ b mb f2) (hm : behindInMarks op b = false) :
    PTe X ρ (.Compare a [op] [b] pos) (ma.bind fun x => mb.bind fun y => g x y) := .mk fun z ez σ F H R Q q => by
  obtain ⟨x, ex, ez⟩ := bind_some ez
  obtain ⟨y, ey, ez⟩ := bind_some ez
  refine PT.to (pt_cmpR opR_at pE pE hm) ?_
  exact ha x ex σ F H R _ fun v F1 H1 x1 d1 => hb y ey σ F1 H1 (R.ext x1) _ fun u F2 H2 x2 d2 =>
    ho x y z ez F2 H2 v u _ x2.fh (d1.ext x2) d2 fun w F' H' x3 d3 => ⟨z, dp_bl d3, q F' H' (x1.trans (x2.trans x3))⟩
/-- a op b op' c: c is asked only if a op b -/
def chain {α β γ : Type} (ma : Option α) (mb : Option β) (mc : Option γ) (g : α → β → Option Bool) (g' : β → γ → Option Bool) : Option Bool :=
  ma.bind fun x => mb.bind fun y => (g x y).bind fun k => if k then mc.bind fun z => g' y z else some false
theorem pv_chain {op op' : CmpOp} {f1 : α → AD} {f2 : β → AD} {f3 : γ → AD} {g : α → β → Option Bool} {g' : β → γ → Option Bool} {ma : Option α} {mb : Option β} {mc : Option γ} (ho : OpV X (compareOp op) f1 f2 g dB) (ho' : OpV X (compareOp op') f2 f3 g' dB)
    (ha : PV X ρ a ma f1) (hb : PV X ρ b mb f2) (hc : PV X ρ c mc f3) (hm : lastMarks [op, op'] [b, c] = false := by with_unfolding_all rfl) : PV X ρ (.Compare a [op, op'] [b, c] pos) (chain ma mb mc g g') (aD dB) := .mk fun z ez σ F H R Q q => by
  obtain ⟨x, ex, ez⟩ := bind_some ez
  obtain ⟨y, ey, ez⟩ := bind_some ez
  obtain ⟨k, ek, ez⟩ := bind_some ez
  refine PE.to (pe_chain opR_at opR_at pE pE pE hm) ?_
  refine ha x ex σ F H R _ fun v F1 H1 x1 d1 => hb y ey σ F1 H1 (R.ext x1) _ fun u F2 H2 x2 d2 =>
    ho x y k ek F2 H2 v u _ x2.fh (d1.ext x2) d2 fun w F3 H3 x3 d3 => ⟨k, dp_bl d3, ?_⟩
  cases k with
  | false =>
    cases ez
    rw [if_neg Bool.false_ne_true]
    exact q _ F3 H3 (x1.trans (x2.trans x3)) (.bl false)
  | true =>
    obtain ⟨w', ew, ez⟩ := bind_some ez
    rw [if_pos rfl]
    exact hc w' ew σ F3 H3 (R.ext (x1.trans (x2.trans x3))) _ fun v4 F4 H4 x4 d4 => ho' y w' z ez F4 H4 u v4 Q x4.fh (d2.ext (x3.trans x4)) d4 fun v5 F5 H5 x5 d5 => q v5 F5 H5 (x1.trans (x2.trans (x3.trans (x4.trans x5)))) d5
theorem pt_chain' {op op' : CmpOp} {f1 : α → AD} {f2 : β → AD} {f3 : γ → AD} {g : α → β → Option Bool} {g' : β → γ → Option Bool} {ma : Option α} {mb : Option β} {mc : Option γ} (ho : OpV X (compareOp op) f1 f2 g dB) (ho' : OpV X (compareOp op') f2 f3 g' dB)
    (ha : PV X ρ a ma f1) (hb : PV X ρ b mb f2) (hc : PV X ρ c mc f3) (hm : lastMarks [op, op'] [b, c] = false := by with_unfolding_all rfl) : PTe X ρ (.Compare a [op, op'] [b, c] pos) (chain ma mb mc g g') := .mk fun z ez σ F H R Q q => by
  obtain ⟨x, ex, ez⟩ := bind_some ez
  obtain ⟨y, ey, ez⟩ := bind_some ez
  obtain ⟨k, ek, ez⟩ := bind_some ez
  refine PT.to (pt_chain opR_at opR_at pE pE pE hm) ?_
  refine ha x ex σ F H R _ fun v F1 H1 x1 d1 => hb y ey σ F1 H1 (R.ext x1) _ fun u F2 H2 x2 d2 =>
    ho x y k ek F2 H2 v u _ x2.fh (d1.ext x2) d2 fun w F3 H3 x3 d3 => ⟨k, dp_bl d3, ?_⟩
  cases k with
  | false =>
    cases ez
    rw [if_neg Bool.false_ne_true]
    exact ⟨false, rfl, q F3 H3 (x1.trans (x2.trans x3))⟩
  | true =>
    obtain ⟨w', ew, ez⟩ := bind_some ez
    rw [if_pos rfl]
    exact hc w' ew σ F3 H3 (R.ext (x1.trans (x2.trans x3))) _ fun v4 F4 H4 x4 d4 => ho' y w' z ez F4 H4 u v4 _ x4.fh (d2.ext (x3.trans x4)) d4 fun v5 F5 H5 x5 d5 => ⟨z, dp_bl d5, q F5 H5 (x1.trans (x2.trans (x3.trans (x4.trans x5))))⟩
theorem pv_neg {ma : Option Int} (ha : PV X ρ a ma (aD dI)) : PV X ρ (.UnaryOp .USub a pos) (ma.bind fun x => some (-x)) (aD dI) := .mk fun z ez σ F H R Q q => by
  obtain ⟨x, ex, ez⟩ := bind_some ez
  cases ez
  refine PE.to (pe_un un_neg pE) ?_
  exact ha x ex σ F H R _ fun v F1 H1 x1 d1 => ⟨x, dp_int d1, q _ F1 H1 x1 (.int _)⟩

/-! is None -/
def noneT {α : Type} (x : Option α) : Option Bool := some x.isNone
def someT {α : Type} (x : Option α) : Option Bool := some x.isSome
theorem dO_non {K : PySem.W.Frag} {F : Hp} {v : V} {f : α → D} {x : Option α} (hf : ∀ a, f a ≠ .none) (h : Dp K F v (dO f x)) : decide (v = .non) = x.isNone := by
  cases x with
  | none => cases dp_non h; rfl
  | some a =>
    have hv : v ≠ .non := fun z => by
      subst z
      have : ∀ d : D, Dp K F V.non d → d = .none := fun d hd => by cases hd; rfl
      exact hf a (this _ h)
    exact decide_eq_false hv
theorem pv_isNone {f : α → D} {ma : Option (Option α)} {j p2} (hf : ∀ a, f a ≠ .none) (ha : PV X ρ a ma (aD (dO f))) : PV X ρ (.Compare a [.Is] [.Constant .none j p2] pos) (ma.bind noneT) (aD dB) := .mk fun z ez σ F H R Q q => by
  obtain ⟨x, ex, ez⟩ := bind_some ez
  cases ez
  refine PE.to (pe_cmp (pc_isN pE)) ?_
  exact ha x ex σ F H R _ fun v F1 H1 x1 d1 => q _ F1 H1 x1 (by show Dp _ _ _ (PyData.bool _); rw [dO_non hf d1]; exact .bl _)
theorem pv_notNone {f : α → D} {ma : Option (Option α)} {j p2} (hf : ∀ a, f a ≠ .none) (ha : PV X ρ a ma (aD (dO f))) : PV X ρ (.Compare a [.IsNot] [.Constant .none j p2] pos) (ma.bind someT) (aD dB) := .mk fun z ez σ F H R Q q => by
  obtain ⟨x, ex, ez⟩ := bind_some ez
  cases ez
  refine PE.to (pe_cmp (pc_notN pE)) ?_
  exact ha x ex σ F H R _ fun v F1 H1 x1 d1 => q _ F1 H1 x1 (by show Dp _ _ _ (PyData.bool _); rw [dO_non hf d1]; cases x <;> exact .bl _)
theorem pt_isNone {f : α → D} {ma : Option (Option α)} {j p2} (hf : ∀ a, f a ≠ .none) (ha : PV X ρ a ma (aD (dO f))) : PTe X ρ (.Compare a [.Is] [.Constant .none j p2] pos) (ma.bind noneT) := .mk fun z ez σ F H R Q q => by
  obtain ⟨x, ex, ez⟩ := bind_some ez
  cases ez
  refine PT.to (pt_cmp (pc_isN pE)) ?_
  exact ha x ex σ F H R _ fun v F1 H1 x1 d1 => ⟨_, rfl, by rw [dO_non hf d1]; exact q F1 H1 x1⟩
theorem pt_notNone {f : α → D} {ma : Option (Option α)} {j p2} (hf : ∀ a, f a ≠ .none) (ha : PV X ρ a ma (aD (dO f))) : PTe X ρ (.Compare a [.IsNot] [.Constant .none j p2] pos) (ma.bind someT) := .mk fun z ez σ F H R Q q => by
  obtain ⟨x, ex, ez⟩ := bind_some ez
  cases ez
  refine PT.to (pt_cmp (pc_notN pE)) ?_
  exact ha x ex σ F H R _ fun v F1 H1 x1 d1 => ⟨_, rfl, by rw [dO_non hf d1]; cases x <;> exact q F1 H1 x1⟩

/-! and, or, not -/
theorem pt_v {ma : Option Bool} (ha : PV X ρ a ma (aD dB)) (he : ∀ whole, isTrue a X.env whole = (do let v ← whole; standAt a.pos; holding [v] (truthy v)) := by intro _; rfl) : PTe X ρ a ma := .mk fun z ez σ F H R Q q =>
  PT.to (pt_val pE he) (ha z ez σ F H R _ fun v F1 H1 x1 d1 => ⟨z, dp_bl d1, q F1 H1 x1⟩)
theorem pt_not' {ma : Option Bool} (ha : PTe X ρ a ma) : PTe X ρ (.UnaryOp .Not a pos) (ma.bind fun x => some (!x)) := .mk fun z ez σ F H R Q q => by
  obtain ⟨x, ex, ez⟩ := bind_some ez
  cases ez
  exact PT.to (pt_not pT) (ha x ex σ F H R _ fun F1 H1 x1 => q F1 H1 x1)
theorem PWe.pt {ma : Option Bool} (ha : PWe X ρ a ma) : PTe X ρ a ma := .mk fun z ez σ F H R Q q => PT.to pW.pt (ha z ez σ F H R Q q)
theorem pw_a1 {ma : Option Bool} (ha : PTe X ρ a ma) : PWe X ρ (.BoolOp .And [a] pos) ma := .mk fun z ez σ F H R Q q => PW.to (pw_and1 pT) (ha z ez σ F H R Q q)
theorem pw_o1 {ma : Option Bool} (ha : PTe X ρ a ma) : PWe X ρ (.BoolOp .Or [a] pos) ma := .mk fun z ez σ F H R Q q => PW.to (pw_or1 pT) (ha z ez σ F H R Q q)
def andM (ma mb : Option Bool) : Option Bool := ma.bind fun x => if x then mb else some false
def orM (ma mb : Option Bool) : Option Bool := ma.bind fun x => if x then some true else mb
theorem pw_a {ma mb : Option Bool} {rest : List Expr} (ha : PTe X ρ a ma) (hb : PWe X ρ (.BoolOp .And (b :: rest) pos) mb) : PWe X ρ (.BoolOp .And (a :: b :: rest) pos) (andM ma mb) := .mk fun z ez σ F H R Q q => by
  obtain ⟨x, ex, ez⟩ := bind_some ez
  refine PW.to (pw_and pT pW) (ha x ex σ F H R _ fun F1 H1 x1 => ?_)
  cases x with
  | true => exact iteT (hb z ez σ F1 H1 (R.ext x1) _ fun F2 H2 x2 => q F2 H2 (x1.trans x2))
  | false => cases ez; exact iteF (q F1 H1 x1)
theorem pw_o {ma mb : Option Bool} {rest : List Expr} (ha : PTe X ρ a ma) (hb : PWe X ρ (.BoolOp .Or (b :: rest) pos) mb) : PWe X ρ (.BoolOp .Or (a :: b :: rest) pos) (orM ma mb) := .mk fun z ez σ F H R Q q => by
  obtain ⟨x, ex, ez⟩ := bind_some ez
  refine PW.to (pw_or pT pW) (ha x ex σ F H R _ fun F1 H1 x1 => ?_)
  cases x with
  | true => cases ez; exact iteT (q F1 H1 x1)
  | false => exact iteF (hb z ez σ F1 H1 (R.ext x1) _ fun F2 H2 x2 => q F2 H2 (x1.trans x2))
theorem pv_one {op} {m : Option α} {f : α → AD} (h : PV X ρ a m f) : PV X ρ (.BoolOp op [a] pos) m f := .mk fun z ez σ F H R Q q => PE.to (pe_one pE) (h z ez σ F H R Q q)
theorem pv_and {ma mb : Option Bool} {rest : List Expr} (ha : PV X ρ a ma (aD dB)) (hb : PV X ρ (.BoolOp .And (b :: rest) pos) mb (aD dB)) : PV X ρ (.BoolOp .And (a :: b :: rest) pos) (andM ma mb) (aD dB) := .mk fun z ez σ F H R Q q => by
  obtain ⟨x, ex, ez⟩ := bind_some ez
  refine PE.to (pe_and pE pE) (ha x ex σ F H R _ fun v F1 H1 x1 d1 => ⟨x, dp_bl d1, ?_⟩)
  cases x with
  | true => exact iteT (hb z ez σ F1 H1 (R.ext x1) _ fun v F2 H2 x2 d2 => q v F2 H2 (x1.trans x2) d2)
  | false => cases ez; exact iteF (q _ F1 H1 x1 (.bl false))
theorem pv_or {ma mb : Option Bool} {rest : List Expr} (ha : PV X ρ a ma (aD dB)) (hb : PV X ρ (.BoolOp .Or (b :: rest) pos) mb (aD dB)) : PV X ρ (.BoolOp .Or (a :: b :: rest) pos) (orM ma mb) (aD dB) := .mk fun z ez σ F H R Q q => by
  obtain ⟨x, ex, ez⟩ := bind_some ez
  refine PE.to (pe_or pE pE) (ha x ex σ F H R _ fun v F1 H1 x1 d1 => ⟨x, dp_bl d1, ?_⟩)
  cases x with
  | true => cases ez; exact iteT (q _ F1 H1 x1 (.bl true))
  | false => exact iteF (hb z ez σ F1 H1 (R.ext x1) _ fun v F2 H2 x2 d2 => q v F2 H2 (x1.trans x2) d2)
theorem pv_not {ma : Option Bool} (ha : PV X ρ a ma (aD dB)) : PV X ρ (.UnaryOp .Not a pos) (ma.bind fun x => some (!x)) (aD dB) := .mk fun z ez σ F H R Q q => by
  obtain ⟨x, ex, ez⟩ := bind_some ez
  cases ez
  exact PE.to (pe_not pE) (ha x ex σ F H R _ fun v F1 H1 x1 d1 => ⟨x, dp_bl d1, q _ F1 H1 x1 (.bl _)⟩)
theorem pv_if {mc : Option Bool} {ma mb : Option α} {f : α → AD} (hc : PTe X ρ c mc) (ha : PV X ρ a ma f) (hb : PV X ρ b mb f) : PV X ρ (.IfExp c a b pos) (mc.bind fun k => if k then ma else mb) f := .mk fun z ez σ F H R Q q => by
  obtain ⟨x, ex, ez⟩ := bind_some ez
  refine PE.to (pe_ifExp pT pE pE) (hc x ex σ F H R _ fun F1 H1 x1 => ?_)
  cases x with
  | true => exact iteT (ha z ez σ F1 H1 (R.ext x1) _ fun v F2 H2 x2 d2 => q v F2 H2 (x1.trans x2) d2)
  | false => exact iteF (hb z ez σ F1 H1 (R.ext x1) _ fun v F2 H2 x2 d2 => q v F2 H2 (x1.trans x2) d2)

/-! arguments -/
theorem par_nil : PAr X ρ [] (some ()) (fun _ => []) := .mk fun z ez σ F H R Q q => PA.to pa_nil (q [] F H (Ext.refl R.sub) trivial)
theorem par_one {m : Option α} {f : α → AD} (h : PV X ρ a m f) (hs : starEach [a] X.env = (false, eval a X.env) :: starEach [] X.env := by rfl) : PAr X ρ [a] m (fun x => [f x]) := .mk fun z ez σ F H R Q q =>
  PA.to (pa_cons pE pa_nil hs) (h z ez σ F H R _ fun v F1 H1 x1 d1 => q [v] F1 H1 x1 ⟨d1, trivial⟩)
theorem par_cons {es : List Expr} {ma : Option α} {f : α → AD} {mb : Option β} {fs : β → List AD} (ha : PV X ρ a ma f) (hb : PAr X ρ es mb fs) (hs : starEach (a :: es) X.env = (false, eval a X.env) :: starEach es X.env := by rfl) :
    PAr X ρ (a :: es) (ma.bind fun x => mb.bind fun y => some (x, y)) (fun p => f p.1 :: fs p.2) := .mk fun z ez σ F H R Q q => by
  obtain ⟨x, ex, ez⟩ := bind_some ez
  obtain ⟨y, ey, ez⟩ := bind_some ez
  cases ez
  exact PA.to (pa_cons pE pA hs) (ha x ex σ F H R _ fun v F1 H1 x1 d1 => hb y ey σ F1 H1 (R.ext x1) _ fun vs F2 H2 x2 d2 => q (v :: vs) F2 H2 (x1.trans x2) ⟨d1.ext x2, d2⟩)
/-- items of one kind -/
abbrev PLs0 (X : Cx) (ρ : Rho) (es : List Expr) (m : Option (List α)) (f : α → D) : Prop :=
  ∀ a, m = some a → ∀ (σ : L2.St) (F H : Hp), Rel X.K ρ σ F H → ∀ Q : List V → Hp → Prop, (∀ vs F' H', Ext F H F' H' → DpAll X.K F' vs (a.map f) → Q vs H') → tA X es σ H Q
structure PLs (X : Cx) (ρ : Rho) (es : List Expr) (m : Option (List α)) (f : α → D) : Prop where
  run : PLs0 X ρ es m f
instance (X : Cx) (ρ : Rho) (es : List Expr) (m : Option (List α)) (f : α → D) : CoeFun (PLs X ρ es m f) (fun _ => PLs0 X ρ es m f) := ⟨fun h => h.run⟩
theorem pls_nil {f : α → D} : PLs X ρ [] (some []) f := .mk fun z ez σ F H R Q q => by cases ez; exact PA.to pa_nil (q [] F H (Ext.refl R.sub) .nil)
theorem pls_cons {es : List Expr} {f : α → D} {ma : Option α} {mb : Option (List α)} (ha : PV X ρ a ma (aD f)) (hb : PLs X ρ es mb f) (hs : starEach (a :: es) X.env = (false, eval a X.env) :: starEach es X.env := by rfl) :
    PLs X ρ (a :: es) (ma.bind fun x => mb.bind fun y => some (x :: y)) f := .mk fun z ez σ F H R Q q => by
  obtain ⟨x, ex, ez⟩ := bind_some ez
  obtain ⟨y, ey, ez⟩ := bind_some ez
  cases ez
  exact PA.to (pa_cons pE pA hs) (ha x ex σ F H R _ fun v F1 H1 x1 d1 => hb y ey σ F1 H1 (R.ext x1) _ fun vs F2 H2 x2 d2 => q (v :: vs) F2 H2 (x1.trans x2) (.cons (Dp.mono x2.ff d1) d2))
theorem pls_len {es : List Expr} {vs : List V} : es.length ≤ 1000 → vs.length = es.length → vs.length ≤ sizeLine := fun h e => by rw [e]; exact Nat.le_of_lt (small1000 h)

/-! displays -/
theorem AdAll.dps {K : PySem.W.Frag} {F H : Hp} : ∀ {vs : List V} {ds : List D}, AdAll K F H vs (ds.map AD.d) → DpAll K F vs ds
  | [], [], _ => .nil
  | _ :: _, _ :: _, h => .cons h.1 (AdAll.dps h.2)
  | [], _ :: _, h => h.elim
  | _ :: _, [], h => h.elim
/-- a written tuple -/
theorem pv_tup {es : List Expr} {x1} {m : Option α} {fs : α → List AD} {g : α → D} {ds : α → List D} (h : PAr X ρ es m fs) (hd : ∀ x, fs x = (ds x).map AD.d) (hg : ∀ x, g x = .tuple (ds x)) (hn : ∀ x, (ds x).length ≤ 1000) : PV X ρ (.Tuple es x1 pos) m (aD g) := .mk fun z ez σ F H R Q q => by
  refine PE.to (pe_tup pA) (h z ez σ F H R _ fun vs F1 H1 x1 d1 => ?_)
  rw [hd] at d1
  have d2 := AdAll.dps d1
  refine ⟨Nat.le_of_lt (small1000 (by rw [DpAll.length d2]; exact hn z)), fun p hp => ?_⟩
  have x2 := Ext.new x1.fh hp (.tup vs)
  refine q _ _ _ (x1.trans x2) ?_
  show Dp _ _ _ (g z)
  rw [hg]
  exact .tup (SqT.of upd_same) (DpAll.mono x2.ff d2)
theorem pv_tup2 {x1} {ma : Option α} {mb : Option β} {f : α → D} {g : β → D} (ha : PV X ρ a ma (aD f)) (hb : PV X ρ b mb (aD g)) (hs : starEach [a, b] X.env = (false, eval a X.env) :: starEach [b] X.env := by rfl) (hs2 : starEach [b] X.env = (false, eval b X.env) :: starEach [] X.env := by rfl) :
    PV X ρ (.Tuple [a, b] x1 pos) (ma.bind fun x => mb.bind fun y => some (x, y)) (aD (d2 f g)) :=
  pv_tup (ds := fun p => [f p.1, g p.2]) (par_cons ha (par_one hb hs2) hs) (fun _ => rfl) (fun _ => rfl) (fun _ => by show 2 ≤ 1000; decide)
theorem pv_tup3 {x1} {ma : Option α} {mb : Option β} {mc : Option γ} {f : α → D} {g : β → D} {h : γ → D} (ha : PV X ρ a ma (aD f)) (hb : PV X ρ b mb (aD g)) (hc : PV X ρ c mc (aD h)) (hs : starEach [a, b, c] X.env = (false, eval a X.env) :: starEach [b, c] X.env := by rfl) (hs2 : starEach [b, c] X.env = (false, eval b X.env) :: starEach [c] X.env := by rfl) (hs3 : starEach [c] X.env = (false, eval c X.env) :: starEach [] X.env := by rfl) :
    PV X ρ (.Tuple [a, b, c] x1 pos) (ma.bind fun x => (mb.bind fun y => mc.bind fun z => some (y, z)).bind fun w => some (x, w)) (aD (d3 f g h)) :=
  pv_tup (ds := fun p => [f p.1, g p.2.1, h p.2.2]) (par_cons ha (par_cons hb (par_one hc hs3) hs2) hs) (fun _ => rfl) (fun _ => rfl) (fun _ => by show 3 ≤ 1000; decide)
theorem pv_tup4 {x1} {d : Expr} {ma : Option α} {mb : Option β} {mc : Option γ} {md : Option δ} {f : α → D} {g : β → D} {h : γ → D} {k : δ → D} (ha : PV X ρ a ma (aD f)) (hb : PV X ρ b mb (aD g)) (hc : PV X ρ c mc (aD h)) (hd : PV X ρ d md (aD k))
    (hs : starEach [a, b, c, d] X.env = (false, eval a X.env) :: starEach [b, c, d] X.env := by rfl) (hs2 : starEach [b, c, d] X.env = (false, eval b X.env) :: starEach [c, d] X.env := by rfl) (hs3 : starEach [c, d] X.env = (false, eval c X.env) :: starEach [d] X.env := by rfl) (hs4 : starEach [d] X.env = (false, eval d X.env) :: starEach [] X.env := by rfl) :
    PV X ρ (.Tuple [a, b, c, d] x1 pos) (ma.bind fun x => (mb.bind fun y => (mc.bind fun z => md.bind fun w => some (z, w)).bind fun t => some (y, t)).bind fun w => some (x, w)) (aD (d4 f g h k)) :=
  pv_tup (ds := fun p => [f p.1, g p.2.1, h p.2.2.1, k p.2.2.2]) (par_cons ha (par_cons hb (par_cons hc (par_one hd hs4) hs3) hs2) hs) (fun _ => rfl) (fun _ => rfl) (fun _ => by show 4 ≤ 1000; decide)
/-- a written tuple of items of one kind, as a tuple of any length -/
theorem pv_tupL {es : List Expr} {x1} {f : α → D} {m : Option (List α)} (h : PLs X ρ es m f) (hn : ∀ xs, m = some xs → xs.length ≤ 1000) : PV X ρ (.Tuple es x1 pos) m (aD (dT f)) := .mk fun z ez σ F H R Q q => by
  refine PE.to (pe_tup pA) (h z ez σ F H R _ fun vs F1 H1 x1 d1 => ?_)
  refine ⟨Nat.le_of_lt (small1000 (by rw [DpAll.length d1, List.length_map]; exact hn z ez)), fun p hp => ?_⟩
  have x2 := Ext.new x1.fh hp (.tup vs)
  exact q _ _ _ (x1.trans x2) (.tup (SqT.of upd_same) (DpAll.mono x2.ff d1))
/-- a written list -/
theorem pn_lst {es : List Expr} {f : α → D} {m : Option (List α)} (h : PLs X ρ es m f) (hn : ∀ xs, m = some xs → xs.length ≤ 1000) : PN X ρ (.List es pos) m (fun xs => xs.map f) := .mk fun z ez σ F H R Q q => by
  refine PE.to (pe_lst pA) (h z ez σ F H R _ fun vs F1 H1 x1 d1 => ?_)
  refine ⟨Nat.le_of_lt (small1000 (by rw [DpAll.length d1, List.length_map]; exact hn z ez)), fun p hp => ?_⟩
  exact q p vs F1 _ (x1.trans (Ext.newOwn x1.fh hp _)) (x1.hh.free hp) upd_same (x1.fh.free hp) d1
end
end VS
set_option Elab.async false
set_option linter.all false
set_option maxRecDepth 100000
namespace VS
open PySem PySem.Spec PyProof.Rows L2

/-! ### calls of built-ins -/
section
variable (X : Cx) {α β γ : Type}
def CallAt (f : Value) (xs : List V) (H : Hp) (Q : VK) : Prop :=
  ∀ (pins : List (Addr × Obj)) (s : Shared) (σ : L2.St) (us : List Value), Inv X pins σ H s → Vals xs us → wpAny (model X.prog X.w) X.A (call f us) (EP X pins σ Q) X.xe s
def CallV (f : Value) (fs : α → List AD) (g : α → Option γ) (f3 : γ → D) : Prop :=
  ∀ a c, g a = some c → ∀ (F H : Hp) (xs : List V) (Q : VK), Same F H → AdAll X.K F H xs (fs a) → (∀ v F' H', Ext F H F' H' → Dp X.K F' v (f3 c) → Q v H') → CallAt X f xs H Q
def CallN (f : Value) (fs : α → List AD) (g : α → Option γ) (f3 : γ → List D) : Prop :=
  ∀ a c, g a = some c → ∀ (F H : Hp) (xs : List V) (Q : VK), Same F H → AdAll X.K F H xs (fs a) → (∀ p vs F' H', Ext F H F' H' → H p = none → H' p = some (.lst vs) → F' p = none → DpAll X.K F' vs (f3 c) → Q (.ref p) H') → CallAt X f xs H Q
end
section
variable {X : Cx} {α β γ δ : Type} {ρ : Rho} {a b e : Expr} {es : List Expr} {pos p : Pos} {x : Str} {id T : String}
theorem callR_at {f : Value} : CallR X f (fun xs H Q => CallAt X f xs H Q) := fun pins s σ H xs us Q I r h => h pins s σ us I r
theorem CallR.at_ {f : Value} {r : List V → Hp → VK → Prop} (h : CallR X f r) {xs : List V} {H : Hp} {Q : VK} (q : r xs H Q) : CallAt X f xs H Q := fun pins s σ us I rs => h pins s σ H xs us Q I rs q
theorem pv_callB {fs : α → List AD} {g : α → Option γ} {f3 : γ → D} {m : Option α} (hc : CallV X (.builtin id) fs g f3) (hg : Gl X x) (hm : X.mg x = none) (hv : bootBuiltins x = some (.builtin id)) (ha : PAr X ρ (e :: es) m fs) (hn : x ≠ "__name__" := by decide) (hdb : (x == ("__debug__" : Str)) = false := by decide)
    (he : starEach (e :: es) X.env = (false, eval e X.env) :: starEach es X.env := by rfl) (hpl : (backTo pos (starEach es X.env)).any (·.1) = false := by rfl) : PV X ρ (.Call (.Name x p) (e :: es) [] pos) (m.bind g) (aD f3) := .mk fun z ez σ F H R Q q => by
  obtain ⟨y, ey, ez⟩ := bind_some ez
  exact PE.to (pe_callB callR_at hg hm hv pA hn hdb he hpl) (ha y ey σ F H R _ fun vs F1 H1 x1 d1 => hc y z ez F1 H1 vs Q x1.fh d1 fun v F2 H2 x2 d2 => q v F2 H2 (x1.trans x2) d2)
theorem pv_callTy {fs : α → List AD} {g : α → Option γ} {f3 : γ → D} {m : Option α} (hc : CallV X (.type T) fs g f3) (hg : Gl X x) (hm : X.mg x = none) (hv : bootBuiltins x = some (.type T)) (ha : PAr X ρ (e :: es) m fs) (hn : x ≠ "__name__" := by decide) (hdb : (x == ("__debug__" : Str)) = false := by decide)
    (he : starEach (e :: es) X.env = (false, eval e X.env) :: starEach es X.env := by rfl) (hpl : (backTo pos (starEach es X.env)).any (·.1) = false := by rfl) : PV X ρ (.Call (.Name x p) (e :: es) [] pos) (m.bind g) (aD f3) := .mk fun z ez σ F H R Q q => by
  obtain ⟨y, ey, ez⟩ := bind_some ez
  exact PE.to (pe_callTy callR_at hg hm hv pA hn hdb he hpl) (ha y ey σ F H R _ fun vs F1 H1 x1 d1 => hc y z ez F1 H1 vs Q x1.fh d1 fun v F2 H2 x2 d2 => q v F2 H2 (x1.trans x2) d2)
theorem pn_callB {fs : α → List AD} {g : α → Option γ} {f3 : γ → List D} {m : Option α} (hc : CallN X (.builtin id) fs g f3) (hg : Gl X x) (hm : X.mg x = none) (hv : bootBuiltins x = some (.builtin id)) (ha : PAr X ρ (e :: es) m fs) (hn : x ≠ "__name__" := by decide) (hdb : (x == ("__debug__" : Str)) = false := by decide)
    (he : starEach (e :: es) X.env = (false, eval e X.env) :: starEach es X.env := by rfl) (hpl : (backTo pos (starEach es X.env)).any (·.1) = false := by rfl) : PN X ρ (.Call (.Name x p) (e :: es) [] pos) (m.bind g) f3 := .mk fun z ez σ F H R Q q => by
  obtain ⟨y, ey, ez⟩ := bind_some ez
  exact PE.to (pe_callB callR_at hg hm hv pA hn hdb he hpl) (ha y ey σ F H R _ fun vs F1 H1 x1 d1 => hc y z ez F1 H1 vs Q x1.fh d1 fun p vs F2 H2 x2 hn hp hf d2 => q p vs F2 H2 (x1.trans x2) (x1.hh.free hn) hp hf d2)
theorem pn_callTy {fs : α → List AD} {g : α → Option γ} {f3 : γ → List D} {m : Option α} (hc : CallN X (.type T) fs g f3) (hg : Gl X x) (hm : X.mg x = none) (hv : bootBuiltins x = some (.type T)) (ha : PAr X ρ (e :: es) m fs) (hn : x ≠ "__name__" := by decide) (hdb : (x == ("__debug__" : Str)) = false := by decide)
    (he : starEach (e :: es) X.env = (false, eval e X.env) :: starEach es X.env := by rfl) (hpl : (backTo pos (starEach es X.env)).any (·.1) = false := by rfl) : PN X ρ (.Call (.Name x p) (e :: es) [] pos) (m.bind g) f3 := .mk fun z ez σ F H R Q q => by
  obtain ⟨y, ey, ez⟩ := bind_some ez
  exact PE.to (pe_callTy callR_at hg hm hv pA hn hdb he hpl) (ha y ey σ F H R _ fun vs F1 H1 x1 d1 => hc y z ez F1 H1 vs Q x1.fh d1 fun p vs F2 H2 x2 hn hp hf d2 => q p vs F2 H2 (x1.trans x2) (x1.hh.free hn) hp hf d2)
/-- f(e, ..) where the module's name f stands for a built-in (from math import gcd) -/
theorem pv_callG {fs : α → List AD} {g : α → Option γ} {f3 : γ → D} {m : Option α} (hc : CallV X (.builtin id) fs g f3) (hg : Gl X x) (hm : X.mg x = some (.builtin id)) (ha : PAr X ρ (e :: es) m fs) (hdb : (x == ("__debug__" : Str)) = false := by decide)
    (he : starEach (e :: es) X.env = (false, eval e X.env) :: starEach es X.env := by rfl) (hpl : (backTo pos (starEach es X.env)).any (·.1) = false := by rfl) : PV X ρ (.Call (.Name x p) (e :: es) [] pos) (m.bind g) (aD f3) := .mk fun z ez σ F H R Q q => by
  obtain ⟨y, ey, ez⟩ := bind_some ez
  exact PE.to (pe_callBfun callR_at hg hm pA hdb he hpl) (ha y ey σ F H R _ fun vs F1 H1 x1 d1 => hc y z ez F1 H1 vs Q x1.fh d1 fun v F2 H2 x2 d2 => q v F2 H2 (x1.trans x2) d2)

/-! arguments told -/
theorem ad1 {K : PySem.W.Frag} {F H : Hp} {k : AD} : ∀ {xs : List V}, AdAll K F H xs [k] → ∃ v, xs = [v] ∧ k.ok K F H v
  | [v], h => ⟨v, rfl, h.1⟩
  | [], h => h.elim
  | _ :: _ :: _, h => h.2.elim
theorem ad2 {K : PySem.W.Frag} {F H : Hp} {k l : AD} : ∀ {xs : List V}, AdAll K F H xs [k, l] → ∃ v u, xs = [v, u] ∧ k.ok K F H v ∧ l.ok K F H u
  | [v, u], h => ⟨v, u, rfl, h.1, h.2.1⟩
  | [], h => h.elim
  | [_], h => h.2.elim
  | _ :: _ :: _ :: _, h => h.2.2.elim
theorem ad3 {K : PySem.W.Frag} {F H : Hp} {k l m : AD} : ∀ {xs : List V}, AdAll K F H xs [k, l, m] → ∃ v u w, xs = [v, u, w] ∧ k.ok K F H v ∧ l.ok K F H u ∧ m.ok K F H w
  | [v, u, w], h => ⟨v, u, w, rfl, h.1, h.2.1, h.2.2.1⟩
  | [], h => h.elim
  | [_], h => h.2.elim
  | [_, _], h => h.2.2.elim
  | _ :: _ :: _ :: _ :: _, h => h.2.2.2.elim
/-- a sequence (list or tuple) by its items -/
theorem AD.ok.seq {K : PySem.W.Frag} {F H : Hp} {v : V} {ds : List D} {k : AD} (s : Same F H) (e : k.seq? = some ds) (h : k.ok K F H v) : ∃ p vs, v = .ref p ∧ (SqL K H p vs ∨ SqT K H p vs) ∧ DpAll K F vs ds := by
  cases k with
  | d y =>
    cases y with
    | list xs =>
      cases e
      obtain ⟨p, vs, e, a, b⟩ := dp_lst h
      exact ⟨p, vs, e, .inl (s.seq a), b⟩
    | tuple xs =>
      cases e
      obtain ⟨p, vs, e, a, b⟩ := dp_tup h
      exact ⟨p, vs, e, .inr (sqT_mono s a), b⟩
    | _ => cases e
  | l xs =>
    cases e
    obtain ⟨p, vs, e, a, b⟩ := h
    exact ⟨p, vs, e, .inl a, b⟩
def lenT (xs : List α) : Option Int := some (xs.length : Int)
theorem cv_len {f1 : List α → AD} {f : α → D} (h : ∀ xs, (f1 xs).seq? = some (xs.map f) := by intro _; rfl) : CallV X (.builtin "len") (fun xs => [f1 xs]) lenT dI := fun a c ec F H xs Q s hx q => by
  cases ec
  obtain ⟨v, rfl, d⟩ := ad1 hx
  obtain ⟨p, vs, rfl, hs, hd⟩ := d.seq s (h a)
  refine CallR.at_ call_len_seq ⟨p, vs, rfl, hs, ?_⟩
  rw [DpAll.length hd, List.length_map]
  exact q _ F H (Ext.refl s) (.int _)
/-- len of any list, tuple, text -/
def lenA : D → Option Int
  | .list xs => some (xs.length : Int)
  | .tuple xs => some (xs.length : Int)
  | .str z => some (z.length : Int)
  | _ => none
def lenS (z : Str) : Option Int := if z.length ≤ sizeLine then some (z.length : Int) else none
theorem cv_lenS : CallV X (.builtin "len") (fun z => [aD dS z]) lenS dI := fun a c ec F H xs Q s hx q => by
  obtain ⟨v, rfl, d⟩ := ad1 hx
  cases dp_str d
  unfold lenS at ec
  split at ec
  · cases ec
    rename_i h
    exact CallR.at_ call_len_str ⟨_, rfl, h, q _ F H (Ext.refl s) (.int _)⟩
  · cases ec
def absI (x : Int) : Option Int := some (if x < 0 then -x else x)
theorem cv_abs : CallV X (.builtin "abs") (fun z => [aD dI z]) absI dI := fun a c ec F H xs Q s hx q => by
  cases ec
  obtain ⟨v, rfl, d⟩ := ad1 hx
  cases dp_int d
  exact CallR.at_ call_abs ⟨_, rfl, q _ F H (Ext.refl s) (.int _)⟩
def intI (x : Int) : Option Int := some x
theorem cv_int : CallV X (.type "int") (fun z => [aD dI z]) intI dI := fun a c ec F H xs Q s hx q => by
  cases ec
  obtain ⟨v, rfl, d⟩ := ad1 hx
  cases dp_int d
  exact CallR.at_ call_int1 (.inl ⟨_, rfl, q _ F H (Ext.refl s) (.int _)⟩)
def intB (x : Bool) : Option Int := some (if x then 1 else 0)
theorem cv_intB : CallV X (.type "int") (fun z => [aD dB z]) intB dI := fun a c ec F H xs Q s hx q => by
  cases ec
  obtain ⟨v, rfl, d⟩ := ad1 hx
  cases dp_bl d
  exact CallR.at_ call_int1 (.inr ⟨_, rfl, q _ F H (Ext.refl s) (.int _)⟩)
def max2 (p : Int × Int) : Option Int := some (if p.2 > p.1 then p.2 else p.1)
def min2 (p : Int × Int) : Option Int := some (if p.2 < p.1 then p.2 else p.1)
theorem cv_max2 (hc : X.calm = true) : CallV X (.builtin "max") (fun (p : Int × Int) => [aD dI p.1, aD dI p.2]) max2 dI := fun a c ec F H xs Q s hx q => by
  cases ec
  obtain ⟨v, u, rfl, d, d'⟩ := ad2 hx
  cases dp_int d; cases dp_int d'
  exact CallR.at_ (call_max2 hc) ⟨_, _, rfl, q _ F H (Ext.refl s) (.int _)⟩
theorem cv_min2 (hc : X.calm = true) : CallV X (.builtin "min") (fun (p : Int × Int) => [aD dI p.1, aD dI p.2]) min2 dI := fun a c ec F H xs Q s hx q => by
  cases ec
  obtain ⟨v, u, rfl, d, d'⟩ := ad2 hx
  cases dp_int d; cases dp_int d'
  exact CallR.at_ (call_min2 hc) ⟨_, _, rfl, q _ F H (Ext.refl s) (.int _)⟩
theorem dpall_ints {K : PySem.W.Frag} {F : Hp} {vs : List V} {ns : List Int} (h : DpAll K F vs (ns.map dI)) : vs = ns.map V.int := DpAll.ints_of h
theorem dpall_bls {K : PySem.W.Frag} {F : Hp} : ∀ {vs : List V} {bs : List Bool}, DpAll K F vs (bs.map dB) → vs = bs.map V.bl
  | _, [], .nil => rfl
  | _, n :: ns, .cons h t => by
    cases h
    rw [dpall_bls t]
    rfl
def sumT (ns : List Int) : Option Int := some ns.sum
theorem cv_sum {f1 : List Int → AD} (hc : X.calm = true) (h : ∀ xs, (f1 xs).dat = .list (xs.map dI) := by intro _; rfl) : CallV X (.builtin "sum") (fun xs => [f1 xs]) sumT dI := fun a c ec F H xs Q s hx q => by
  cases ec
  obtain ⟨v, rfl, d⟩ := ad1 hx
  obtain ⟨p, vs, rfl, hs, hd⟩ := d.lst s (h a)
  cases dpall_ints hd
  exact CallR.at_ (cr_sum hc) ⟨p, a, rfl, hs, q _ F H (Ext.refl s) (.int _)⟩
def anyT (bs : List Bool) : Option Bool := some (bs.any _root_.id)
def allT (bs : List Bool) : Option Bool := some (bs.all _root_.id)
theorem cv_any {f1 : List Bool → AD} (hc : X.calm = true) (h : ∀ xs, (f1 xs).dat = .list (xs.map dB) := by intro _; rfl) : CallV X (.builtin "any") (fun xs => [f1 xs]) anyT dB := fun a c ec F H xs Q s hx q => by
  cases ec
  obtain ⟨v, rfl, d⟩ := ad1 hx
  obtain ⟨p, vs, rfl, hs, hd⟩ := d.lst s (h a)
  cases dpall_bls hd
  exact CallR.at_ (cr_any hc) ⟨p, a, rfl, hs, q _ F H (Ext.refl s) (.bl _)⟩
theorem cv_all {f1 : List Bool → AD} (hc : X.calm = true) (h : ∀ xs, (f1 xs).dat = .list (xs.map dB) := by intro _; rfl) : CallV X (.builtin "all") (fun xs => [f1 xs]) allT dB := fun a c ec F H xs Q s hx q => by
  cases ec
  obtain ⟨v, rfl, d⟩ := ad1 hx
  obtain ⟨p, vs, rfl, hs, hd⟩ := d.lst s (h a)
  cases dpall_bls hd
  exact CallR.at_ (cr_all hc) ⟨p, a, rfl, hs, q _ F H (Ext.refl s) (.bl _)⟩
def maxT : List Int → Option Int
  | [] => none
  | x :: xs => some (xs.foldl max x)
def minT : List Int → Option Int
  | [] => none
  | x :: xs => some (xs.foldl min x)
theorem foldl_max_ge (xs : List Int) : ∀ x, x ≤ xs.foldl max x ∧ (∀ y ∈ xs, y ≤ xs.foldl max x) ∧ (xs.foldl max x = x ∨ xs.foldl max x ∈ xs) := by
  induction xs with
  | nil => exact fun x => ⟨Int.le_refl _, fun _ h => (nomatch h), .inl rfl⟩
  | cons z zs ih =>
    intro x
    obtain ⟨h1, h2, h3⟩ := ih (max x z)
    refine ⟨Int.le_trans (Int.le_max_left x z) h1, fun y hy => ?_, ?_⟩
    · rcases List.mem_cons.mp hy with rfl | hy
      · exact Int.le_trans (Int.le_max_right x y) h1
      · exact h2 y hy
    · show zs.foldl max (max x z) = x ∨ zs.foldl max (max x z) ∈ z :: zs
      rcases h3 with h3 | h3
      · rw [h3]
        by_cases h : x ≤ z
        · rw [Int.max_eq_right h]; exact .inr List.mem_cons_self
        · rw [Int.max_eq_left (by omega)]; exact .inl rfl
      · exact .inr (List.mem_cons_of_mem _ h3)
theorem foldl_min_le (xs : List Int) : ∀ x, xs.foldl min x ≤ x ∧ (∀ y ∈ xs, xs.foldl min x ≤ y) ∧ (xs.foldl min x = x ∨ xs.foldl min x ∈ xs) := by
  induction xs with
  | nil => exact fun x => ⟨Int.le_refl _, fun _ h => (nomatch h), .inl rfl⟩
  | cons z zs ih =>
    intro x
    obtain ⟨h1, h2, h3⟩ := ih (min x z)
    refine ⟨Int.le_trans h1 (Int.min_le_left x z), fun y hy => ?_, ?_⟩
    · rcases List.mem_cons.mp hy with rfl | hy
      · exact Int.le_trans h1 (Int.min_le_right x y)
      · exact h2 y hy
    · show zs.foldl min (min x z) = x ∨ zs.foldl min (min x z) ∈ z :: zs
      rcases h3 with h3 | h3
      · rw [h3]
        by_cases h : x ≤ z
        · rw [Int.min_eq_left h]; exact .inl rfl
        · rw [Int.min_eq_right (by omega)]; exact .inr List.mem_cons_self
      · exact .inr (List.mem_cons_of_mem _ h3)
theorem cv_max {f1 : List Int → AD} (hc : X.calm = true) (h : ∀ xs, (f1 xs).dat = .list (xs.map dI) := by intro _; rfl) : CallV X (.builtin "max") (fun xs => [f1 xs]) maxT dI := fun a c ec F H xs Q s hx q => by
  obtain ⟨v, rfl, d⟩ := ad1 hx
  obtain ⟨p, vs, rfl, hs, hd⟩ := d.lst s (h a)
  cases dpall_ints hd
  cases a with
  | nil => cases ec
  | cons y ys =>
    cases ec
    refine CallR.at_ (cr_max hc) ⟨p, y :: ys, rfl, hs, by simp, fun m hm hl => ?_⟩
    obtain ⟨h1, h2, h3⟩ := foldl_max_ge ys y
    have e : m = ys.foldl max y := by
      have k1 : m ≤ ys.foldl max y := by
        rcases List.mem_cons.mp hm with rfl | hm
        · exact h1
        · exact h2 m hm
      have k2 : ys.foldl max y ≤ m := hl _ (by
        rcases h3 with h3 | h3
        · rw [h3]; exact List.mem_cons_self
        · exact List.mem_cons_of_mem _ h3)
      omega
    rw [e]
    exact q _ F H (Ext.refl s) (.int _)
theorem cv_min {f1 : List Int → AD} (hc : X.calm = true) (h : ∀ xs, (f1 xs).dat = .list (xs.map dI) := by intro _; rfl) : CallV X (.builtin "min") (fun xs => [f1 xs]) minT dI := fun a c ec F H xs Q s hx q => by
  obtain ⟨v, rfl, d⟩ := ad1 hx
  obtain ⟨p, vs, rfl, hs, hd⟩ := d.lst s (h a)
  cases dpall_ints hd
  cases a with
  | nil => cases ec
  | cons y ys =>
    cases ec
    refine CallR.at_ (cr_min hc) ⟨p, y :: ys, rfl, hs, by simp, fun m hm hl => ?_⟩
    obtain ⟨h1, h2, h3⟩ := foldl_min_le ys y
    have e : m = ys.foldl min y := by
      have k1 : ys.foldl min y ≤ m := by
        rcases List.mem_cons.mp hm with rfl | hm
        · exact h1
        · exact h2 m hm
      have k2 : m ≤ ys.foldl min y := hl _ (by
        rcases h3 with h3 | h3
        · rw [h3]; exact List.mem_cons_self
        · exact List.mem_cons_of_mem _ h3)
      omega
    rw [e]
    exact q _ F H (Ext.refl s) (.int _)
/-- list(x): a new list -/
theorem cn_list {f1 : List α → AD} {f : α → D} (h : ∀ xs, (f1 xs).seq? = some (xs.map f) := by intro _; rfl) : CallN X (.type "list") (fun xs => [f1 xs]) some (fun xs => xs.map f) := fun a c ec F H xs Q s hx q => by
  cases ec
  obtain ⟨v, rfl, d⟩ := ad1 hx
  obtain ⟨p, vs, rfl, hs, hd⟩ := d.seq s (h a)
  exact CallR.at_ call_list_of ⟨p, vs, rfl, hs, fun l hl => q l vs F _ (Ext.newOwn s hl _) hl upd_same (s.free hl) hd⟩
/-- tuple(list): a new tuple -/
theorem cv_tuple {f1 : List α → AD} {f : α → D} (h : ∀ xs, (f1 xs).dat = .list (xs.map f) := by intro _; rfl) : CallV X (.type "tuple") (fun xs => [f1 xs]) some (dT f) := fun a c ec F H xs Q s hx q => by
  cases ec
  obtain ⟨v, rfl, d⟩ := ad1 hx
  obtain ⟨p, vs, rfl, hs, hd⟩ := d.lst s (h a)
  refine CallR.at_ call_tuple_of ⟨p, vs, rfl, .inl ⟨hs, fun l hl => ?_⟩⟩
  have x2 := Ext.new s hl (.tup vs)
  exact q _ _ _ x2 (Dp.tup (SqT.of upd_same) (DpAll.mono x2.ff hd))
/-- tuple(tuple) is itself -/
theorem cv_tupleT {f : α → D} : CallV X (.type "tuple") (fun xs => [aD (dT f) xs]) some (dT f) := fun a c ec F H xs Q s hx q => by
  cases ec
  obtain ⟨v, rfl, d⟩ := ad1 hx
  obtain ⟨p, vs, rfl, hs, hd⟩ := dp_tup d
  exact CallR.at_ call_tuple_of ⟨p, vs, rfl, .inr ⟨sqT_mono s hs, q _ F H (Ext.refl s) d⟩⟩
def gcdT (p : Int × Int) : Option Int := some ((Nat.gcd p.1.natAbs p.2.natAbs : Nat) : Int)
theorem cv_gcd : CallV X (.builtin "math.gcd") (fun (p : Int × Int) => [aD dI p.1, aD dI p.2]) gcdT dI := fun a c ec F H xs Q s hx q => by
  cases ec
  obtain ⟨v, u, rfl, d, d'⟩ := ad2 hx
  cases dp_int d; cases dp_int d'
  exact CallR.at_ cr_gcd ⟨_, _, rfl, q _ F H (Ext.refl s) (.int _)⟩
def strI (i : Int) : Option Str := if i.natAbs.log2 < 1920 then some (toString i) else none
theorem cv_str : CallV X (.type "str") (fun z => [aD dI z]) strI dS := fun a c ec F H xs Q s hx q => by
  obtain ⟨v, rfl, d⟩ := ad1 hx
  cases dp_int d
  unfold strI at ec
  split at ec
  · cases ec
    rename_i h
    exact CallR.at_ call_str_int ⟨_, rfl, h, q _ F H (Ext.refl s) (.str _)⟩
  · cases ec

/-! isinstance(x, T), T a built-in type -/
def tyD : D → Option String
  | .none => some "NoneType"
  | .bool _ => some "bool"
  | .int _ => some "int"
  | .str _ => some "str"
  | .list _ => some "list"
  | .tuple _ => some "tuple"
  | .dict _ => none
theorem tyX_of {K : PySem.W.Frag} {F H : Hp} {v : V} {k : AD} {n : String} (s : Same F H) (e : tyD k.dat = some n) (h : k.ok K F H v) : TyX K H v (.type n) := by
  have lst : ∀ {p vs}, SqL K H p vs → TyX K H (.ref p) (.type "list") := fun {p vs} hs => by
    rcases hs with (hs | ⟨o, hs⟩) | ⟨o, its, n, hk, hc, _⟩
    · exact .base (.lst hs)
    · exact .base (.frz hs)
    · exact .kList hk hc
  have tup : ∀ {p vs}, SqT K H p vs → TyX K H (.ref p) (.type "tuple") := fun {p vs} hs => by
    rcases hs with (hs | ⟨o, hs⟩) | ⟨o, its, n, hk, hc, _⟩
    · exact .base (.tup hs)
    · exact .fTuple hs
    · exact .kTuple hk hc
  cases k with
  | d y =>
    cases y with
    | none => cases e; cases dp_non h; exact .base .non
    | bool b => cases e; cases dp_bl h; exact .base (.bl b)
    | int b => cases e; cases dp_int h; exact .base (.int b)
    | str b => cases e; cases dp_str h; exact .base (.str b)
    | list xs =>
      cases e
      obtain ⟨p, vs, rfl, hs, _⟩ := dp_lst h
      exact lst (s.seq hs)
    | tuple xs =>
      cases e
      obtain ⟨p, vs, rfl, hs, _⟩ := dp_tup h
      exact tup (sqT_mono s hs)
    | dict _ => cases e
  | l xs =>
    cases e
    obtain ⟨p, vs, rfl, hs, _⟩ := h
    exact lst hs
/-- what isinstance(d, T) says -/
def isiD (T : String) (d : D) : Option Bool := (tyD d).map fun n => n == T || (n == "bool" && T == "int") || T == "object"
theorem kit_table {n T : String} (hT : T = "int" ∨ T = "bool" ∨ T = "str" ∨ T = "list" ∨ T = "tuple") {d : D} (hn : tyD d = some n) : kitB n T = some (n == T || (n == "bool" && T == "int") || T == "object") := by
  cases d with
  | dict _ => cases hn
  | none => cases hn; rcases hT with rfl | rfl | rfl | rfl | rfl <;> decide +kernel
  | bool _ => cases hn; rcases hT with rfl | rfl | rfl | rfl | rfl <;> decide +kernel
  | int _ => cases hn; rcases hT with rfl | rfl | rfl | rfl | rfl <;> decide +kernel
  | str _ => cases hn; rcases hT with rfl | rfl | rfl | rfl | rfl <;> decide +kernel
  | list _ => cases hn; rcases hT with rfl | rfl | rfl | rfl | rfl <;> decide +kernel
  | tuple _ => cases hn; rcases hT with rfl | rfl | rfl | rfl | rfl <;> decide +kernel
theorem pv_isi {f : α → AD} {ma : Option α} {y : Str} {p2 : Pos} (hT : T = "int" ∨ T = "bool" ∨ T = "str" ∨ T = "list" ∨ T = "tuple") (ha : PV X ρ a ma f) (hg : Gl X "isinstance") (hm : X.mg "isinstance" = none) (hgy : Gl X y) (hmy : X.mg y = none) (hvy : bootBuiltins y = some (.type T))
    (hv : bootBuiltins "isinstance" = some (.builtin "isinstance") := by decide +kernel) (hn : y ≠ "__name__" := by decide) (hdb : (y == ("__debug__" : Str)) = false := by decide)
    (he : starEach [a, .Name y p2] X.env = (false, eval a X.env) :: starEach [.Name y p2] X.env := by rfl) (he2 : starEach [.Name y p2] X.env = (false, eval (.Name y p2) X.env) :: starEach [] X.env := by rfl) (hpl : (backTo pos (starEach [.Name y p2] X.env)).any (·.1) = false := by rfl) :
    PV X ρ (.Call (.Name "isinstance" p) [a, .Name y p2] [] pos) (ma.bind fun x => isiD T (f x).dat) (aD dB) := .mk fun z ez σ F H R Q q => by
  obtain ⟨x, ex, ez⟩ := bind_some ez
  refine PE.to (pe_callB call_isi hg hm hv (pa_cons pE (pa_cons (pe_bltn (v := .ty T) hgy hmy hvy rfl hn hdb) pa_nil he2) he) (by decide) (by decide) he hpl) ?_
  refine ha x ex σ F H R _ fun v F1 H1 x1 d1 => ?_
  cases hd : tyD (f x).dat with
  | none => unfold isiD at ez; rw [hd] at ez; cases ez
  | some n =>
    unfold isiD at ez
    rw [hd] at ez
    cases ez
    exact ⟨v, .ty T, .type n, .type T, _, rfl, .ty T, tyX_of x1.fh hd d1, kit_ty (kit_table hT hd), q _ F1 H1 x1 (.bl _)⟩
end

/-! ### lists: +, *, items, slices -/
section
open AutoSeq1 (wpAny_loadPart')
theorem list_extendW (l b : Addr) (items items2 : Array Value) (n n2 : Nat) (dd2 : Option Addr) (sl2 : Array (Option Value)) (hlong : ¬ (!items.isEmpty && Builtin.List.listTooLong (items.size + items2.size)) = true) (h2 : items.size ≤ sizeLine) (h1 : items.size + items2.size ≤ sizeLine) :
    Meets (Builtin.«list.extend» ⟨[.ref l, .ref b], []⟩) (fun _ R s => s.heap.get? l = some { cls := .type "list", data := .seq items n } ∧ s.heap.get? b = some { cls := .type "list", dict := dd2, data := .seq items2 n2, slots := sl2 } ∧ R (.ok (.ret .none)) { s with heap := s.heap.update l (Obj.mapSeq fun xs => xs ++ items2) }) :=
  .of_wp fun prog w A R s h => by
    obtain ⟨hp, g, d, tk, os⟩ := s; obtain ⟨hl, hb, h⟩ := h; have f1 := AutoSeq1.idx_int; have f2 := AutoSeq1.sub_tuple_tuple; have f3 := AutoSeq1.sub_list_list; have f4 := AutoSeq1.sub_tuple_list; have f5 := AutoSeq1.sub_list_tuple
    have hz' : (items ++ items2).size ≤ sizeLine + 1 := by rw [Array.size_append]; omega
    wp_walk using (wpAny_updateSeq hl rfl (hz := h2) (_hz' := hz')), wpAny_loadPart' hl, wpAny_loadPart' hb
    exact ⟨_, rfl, h⟩
end
section
variable {X : Cx} {α β γ δ : Type} {ρ : Rho} {a b e : Expr} {es : List Expr} {pos p2 : Pos}
theorem mt_extendW : MtR X "list.extend" (fun x vs H Q => ∃ l b xs zs, x = V.ref l ∧ vs = [V.ref b] ∧ H l = some (.lst xs) ∧ SqL X.K H b zs ∧ xs.length + zs.length ≤ sizeLine ∧ Q .non (upd H l (.lst (xs ++ zs)))) := by
  intro pins s σ H x vs v us Q I rx rv h
  obtain ⟨l, b, xs, zs, rfl, rfl, hH, hB, hz, q⟩ := h
  cases rx
  obtain ⟨u, rfl, ru⟩ := rv.one
  cases ru
  obtain ⟨z, its, n, r, hl, e⟩ := I.lstM hH
  obtain ⟨its2, r2, ⟨ob, n2, e2, c2, _, d2⟩, z2⟩ := I.list hB
  obtain ⟨oc, od, odt, osl⟩ := ob
  simp only at c2 d2
  subst c2 d2
  have hl2 := r2.length
  have hsz : its.toArray.size + its2.toArray.size ≤ sizeLine := by rw [List.size_toArray, List.size_toArray]; omega
  have hlong : ¬ (!its.toArray.isEmpty && Builtin.List.listTooLong (its.toArray.size + its2.toArray.size)) = true := by
    rw [notLongL hsz, Bool.and_false]
    exact Bool.false_ne_true
  refine call_meets F.slot_list_extend ⟨_, e, rfl⟩ F.entry_list_extend (F.args_list_extend_2 _ _)
    (list_extendW l b its.toArray its2.toArray n n2 _ _ hlong (by rw [List.size_toArray]; omega) (by omega)) ⟨e, e2, ?_⟩
  refine ⟨.non, _, I.lset (its' := its ++ its2) hH e (by simp) (r.append r2) ?_, rfl, q⟩
  rw [List.length_append]
  omega
theorem ite_some {c : Prop} [Decidable c] {x y : α} (h : (if c then some x else none) = some y) : c ∧ x = y := by
  by_cases hc : c
  · rw [if_pos hc] at h; exact ⟨hc, Option.some.inj h⟩
  · rw [if_neg hc] at h; cases h
theorem op_catW : OpR X (binaryOp .Add) (fun x y H Q => ∃ l b xs zs, x = .ref l ∧ y = .ref b ∧ SqL X.K H l xs ∧ SqL X.K H b zs ∧ xs.length + zs.length ≤ sizeLine ∧ ∀ p, H p = none → Q (.ref p) (upd H p (.lst (xs ++ zs)))) := by
  intro pins s σ H x y v u Q I rx ry h
  obtain ⟨l, b, xs, zs, rfl, rfl, hH, hB, hz, q⟩ := h
  cases rx
  cases ry
  obtain ⟨its, r, ⟨o1, n, e, c1, _, d1⟩, z⟩ := I.list hH
  obtain ⟨its2, r2, ⟨o2, n2, e2, c2, _, d2⟩, z2⟩ := I.list hB
  obtain ⟨oc, od, odt, osl⟩ := o1
  obtain ⟨oc2, od2, odt2, osl2⟩ := o2
  simp only at c1 d1 c2 d2
  subst c1 d1 c2 d2
  have hl := r.length
  have hl2 := r2.length
  have ea : its.toArray ++ its2.toArray = (its ++ its2).toArray := by simp
  refine concat_meets ⟨_, e, rfl⟩ ⟨_, e2, rfl⟩ noFill_list_add seq_list_add PySem.F.slot_list_add PySem.F.entry_list_add (PySem.F.args_list_add_2 _ _) (list_addW l b its.toArray its2.toArray n n2 _ _ _ _ (by rw [List.size_toArray, List.size_toArray]; omega)) ⟨e, e2, ?_⟩
  rw [ea]
  exact ⟨.ref _, _, I.lnew (t' := s.toks) (r.append r2) (by rw [List.length_append]; omega), rfl, q _ I.fresh⟩
/-- xs + ys -/
def catT (xs ys : List α) : Option (List α) := if xs.length + ys.length ≤ sizeLine then some (xs ++ ys) else none
theorem on_cat {f1 f2 : List α → AD} {f : α → D} (h1 : ∀ xs, (f1 xs).dat = .list (xs.map f) := by intro _; rfl) (h2 : ∀ xs, (f2 xs).dat = .list (xs.map f) := by intro _; rfl) : OpN X (binaryOp .Add) f1 f2 catT (fun xs => xs.map f) := fun a b c e F H x y Q s hx hy q => by
  obtain ⟨hz, rfl⟩ := ite_some e
  obtain ⟨p, vs, rfl, hs, hd⟩ := hx.lst s (h1 a)
  obtain ⟨p', ws, rfl, hs', hd'⟩ := hy.lst s (h2 b)
  refine OpR.at_ op_catW ⟨p, p', vs, ws, rfl, rfl, hs, hs', by rw [DpAll.length hd, DpAll.length hd', List.length_map, List.length_map]; exact hz, fun l hl => ?_⟩
  refine q l (vs ++ ws) F _ (Ext.newOwn s hl _) hl upd_same (s.free hl) ?_
  show DpAll _ _ _ (List.map f (a ++ b))
  rw [List.map_append]
  exact DpAll.append hd hd'
/-- [x, ..] * k -/
def repT (xs : List α) (k : Int) : Option (List α) := if k < 2 ^ 63 ∧ -(2 ^ 63) ≤ k ∧ xs.length * k.toNat ≤ sizeLine then some (List.replicate k.toNat xs).flatten else none
theorem DpAll.rep {K : PySem.W.Frag} {F : Hp} {vs : List V} {ds : List D} (h : DpAll K F vs ds) : ∀ k : Nat, DpAll K F (List.replicate k vs).flatten (List.replicate k ds).flatten
  | 0 => .nil
  | k + 1 => by
    rw [List.replicate_succ, List.replicate_succ, List.flatten_cons, List.flatten_cons]
    exact DpAll.append h (DpAll.rep h k)
theorem map_rep (f : α → β) (xs : List α) : ∀ k : Nat, (List.replicate k xs).flatten.map f = (List.replicate k (xs.map f)).flatten
  | 0 => rfl
  | k + 1 => by rw [List.replicate_succ, List.replicate_succ, List.flatten_cons, List.flatten_cons, List.map_append, map_rep f xs k]
theorem pn_rep {ma : Option (List α)} {mb : Option Int} {f : α → D} (ha : PN X ρ a ma (fun xs => xs.map f)) (hb : PV X ρ b mb (aD dI)) : PN X ρ (.BinOp a .Mult b pos) (ma.bind fun x => mb.bind fun y => repT x y) (fun xs => xs.map f) := .mk fun z ez σ F H R Q q => by
  obtain ⟨x, ex, ez⟩ := bind_some ez
  obtain ⟨y, ey, ez⟩ := bind_some ez
  obtain ⟨hz, rfl⟩ := ite_some ez
  refine PE.to (pe_op op_rep pE pE) ?_
  refine ha x ex σ F H R _ fun p vs F1 H1 x1 hn hp hf d1 => hb y ey σ F1 H1 (R.ext x1) _ fun u F2 H2 x2 d2 => ?_
  refine ⟨p, y, vs, rfl, dp_int d2, x2.hh _ _ hp, hz.2.1, hz.1, by rw [DpAll.length d1, List.length_map]; exact hz.2.2, fun l hl => ?_⟩
  refine q l _ F2 _ (x1.trans (x2.trans (Ext.newOwn x2.fh hl _))) (x1.hh.free (x2.hh.free hl)) upd_same (x2.fh.free hl) ?_
  show DpAll _ _ _ (List.map f (List.replicate y.toNat x).flatten)
  rw [map_rep]
  exact DpAll.rep (DpAll.mono x2.ff d1) _

/-! items -/
theorem atI_map {f : α → β} {xs : List α} {i : Int} {x : α} (h : atI xs i = some x) : atI (xs.map f) i = some (f x) := by
  unfold atI at h ⊢
  rw [List.length_map]
  cases e : ixN xs.length i with
  | none => rw [e] at h; cases h
  | some j =>
    rw [e] at h
    show (xs.map f)[j]? = some (f x)
    rw [List.getElem?_map, show xs[j]? = some x from h]
    rfl
theorem DpAll.atI {K : PySem.W.Frag} {F : Hp} {vs : List V} {ds : List D} (r : DpAll K F vs ds) {i : Int} {d : D} (h : L2.atI ds i = some d) : ∃ v, L2.atI vs i = some v ∧ Dp K F v d := by
  unfold L2.atI at h ⊢
  rw [DpAll.length r]
  cases e : ixN ds.length i with
  | none => rw [e] at h; cases h
  | some j =>
    rw [e] at h
    exact DpAll.get' r h
theorem pv_ix {f1 : List α → AD} {f : α → D} {ma : Option (List α)} {mi : Option Int} (ha : PV X ρ a ma f1) (hb : PV X ρ b mi (aD dI)) (hs : PlainIx b) (h : ∀ xs, (f1 xs).seq? = some (xs.map f) := by intro _; rfl) : PV X ρ (.Subscript a b pos) (ma.bind fun xs => mi.bind fun i => atI xs i) (aD f) := .mk fun z ez σ F H R Q q => by
  obtain ⟨x, ex, ez⟩ := bind_some ez
  obtain ⟨i, ei, ez⟩ := bind_some ez
  refine PE.to (pe_ix ix_seq pE pE hs) (ha x ex σ F H R _ fun v F1 H1 x1 d1 => hb i ei σ F1 H1 (R.ext x1) _ fun u F2 H2 x2 d2 => ?_)
  obtain ⟨p, vs, rfl, hs, hd⟩ := (d1.ext x2).seq x2.fh (h x)
  obtain ⟨w, hw, hdw⟩ := DpAll.atI hd (atI_map (f := f) ez)
  have fin := q w F2 H2 (x1.trans x2) hdw
  rcases hs with hs | hs
  · exact .inl ⟨p, vs, i, w, rfl, dp_int d2, hs, hw, fin⟩
  · exact .inr (.inl ⟨p, vs, i, w, rfl, dp_int d2, hs, hw, fin⟩)
/-- an item of a written-size tuple, or of any sequence that is told by its items -/
theorem pv_ixD {f1 : α → AD} {f : β → D} {ma : Option α} {ds : α → List D} {g : α → β} {i : Int} {k} {p3 : Pos} (ha : PV X ρ a ma f1) (h : ∀ x, (f1 x).seq? = some (ds x)) (hg : ∀ x, atI (ds x) i = some (f (g x))) (hs : PlainIx (.Constant (.int i) k p3) := by exact fun _ _ => rfl) :
    PV X ρ (.Subscript a (.Constant (.int i) k p3) pos) (ma.bind fun x => some (g x)) (aD f) := .mk fun z ez σ F H R Q q => by
  obtain ⟨x, ex, ez⟩ := bind_some ez
  cases ez
  refine PE.to (pe_ix ix_seq pE pe_int hs) (ha x ex σ F H R _ fun v F1 H1 x1 d1 => ?_)
  obtain ⟨p, vs, rfl, hs, hd⟩ := d1.seq x1.fh (h x)
  obtain ⟨w, hw, hdw⟩ := DpAll.atI hd (hg x)
  have fin := q w F1 H1 x1 hdw
  rcases hs with hs | hs
  · exact .inl ⟨p, vs, i, w, rfl, rfl, hs, hw, fin⟩
  · exact .inr (.inl ⟨p, vs, i, w, rfl, rfl, hs, hw, fin⟩)
theorem pv_20 {f : α → D} {g : β → D} {ma : Option (α × β)} {k} {p3 : Pos} (ha : PV X ρ a ma (aD (d2 f g))) : PV X ρ (.Subscript a (.Constant (.int 0) k p3) pos) (ma.bind fun x => some x.1) (aD f) := pv_ixD (ds := fun x => [f x.1, g x.2]) ha (fun _ => rfl) (fun _ => rfl)
theorem pv_21 {f : α → D} {g : β → D} {ma : Option (α × β)} {k} {p3 : Pos} (ha : PV X ρ a ma (aD (d2 f g))) : PV X ρ (.Subscript a (.Constant (.int 1) k p3) pos) (ma.bind fun x => some x.2) (aD g) := pv_ixD (ds := fun x => [f x.1, g x.2]) ha (fun _ => rfl) (fun _ => rfl)
theorem pv_30 {f : α → D} {g : β → D} {h : γ → D} {ma : Option (α × β × γ)} {k} {p3 : Pos} (ha : PV X ρ a ma (aD (d3 f g h))) : PV X ρ (.Subscript a (.Constant (.int 0) k p3) pos) (ma.bind fun x => some x.1) (aD f) := pv_ixD (ds := fun x => [f x.1, g x.2.1, h x.2.2]) ha (fun _ => rfl) (fun _ => rfl)
theorem pv_31 {f : α → D} {g : β → D} {h : γ → D} {ma : Option (α × β × γ)} {k} {p3 : Pos} (ha : PV X ρ a ma (aD (d3 f g h))) : PV X ρ (.Subscript a (.Constant (.int 1) k p3) pos) (ma.bind fun x => some x.2.1) (aD g) := pv_ixD (ds := fun x => [f x.1, g x.2.1, h x.2.2]) ha (fun _ => rfl) (fun _ => rfl)
theorem pv_32 {f : α → D} {g : β → D} {h : γ → D} {ma : Option (α × β × γ)} {k} {p3 : Pos} (ha : PV X ρ a ma (aD (d3 f g h))) : PV X ρ (.Subscript a (.Constant (.int 2) k p3) pos) (ma.bind fun x => some x.2.2) (aD h) := pv_ixD (ds := fun x => [f x.1, g x.2.1, h x.2.2]) ha (fun _ => rfl) (fun _ => rfl)
theorem pv_40 {f : α → D} {g : β → D} {h : γ → D} {l : δ → D} {ma : Option (α × β × γ × δ)} {k} {p3 : Pos} (ha : PV X ρ a ma (aD (d4 f g h l))) : PV X ρ (.Subscript a (.Constant (.int 0) k p3) pos) (ma.bind fun x => some x.1) (aD f) := pv_ixD (ds := fun x => [f x.1, g x.2.1, h x.2.2.1, l x.2.2.2]) ha (fun _ => rfl) (fun _ => rfl)
theorem pv_41 {f : α → D} {g : β → D} {h : γ → D} {l : δ → D} {ma : Option (α × β × γ × δ)} {k} {p3 : Pos} (ha : PV X ρ a ma (aD (d4 f g h l))) : PV X ρ (.Subscript a (.Constant (.int 1) k p3) pos) (ma.bind fun x => some x.2.1) (aD g) := pv_ixD (ds := fun x => [f x.1, g x.2.1, h x.2.2.1, l x.2.2.2]) ha (fun _ => rfl) (fun _ => rfl)
theorem pv_42 {f : α → D} {g : β → D} {h : γ → D} {l : δ → D} {ma : Option (α × β × γ × δ)} {k} {p3 : Pos} (ha : PV X ρ a ma (aD (d4 f g h l))) : PV X ρ (.Subscript a (.Constant (.int 2) k p3) pos) (ma.bind fun x => some x.2.2.1) (aD h) := pv_ixD (ds := fun x => [f x.1, g x.2.1, h x.2.2.1, l x.2.2.2]) ha (fun _ => rfl) (fun _ => rfl)
theorem pv_43 {f : α → D} {g : β → D} {h : γ → D} {l : δ → D} {ma : Option (α × β × γ × δ)} {k} {p3 : Pos} (ha : PV X ρ a ma (aD (d4 f g h l))) : PV X ρ (.Subscript a (.Constant (.int 3) k p3) pos) (ma.bind fun x => some x.2.2.2) (aD l) := pv_ixD (ds := fun x => [f x.1, g x.2.1, h x.2.2.1, l x.2.2.2]) ha (fun _ => rfl) (fun _ => rfl)
/-- a text's sign -/
def signT (z : Str) (i : Int) : Option Str := if z.length ≤ sizeLine then (atI z.cps.toList i).map fun c => ⟨#[c]⟩ else none
theorem pv_ixS {ma : Option Str} {mi : Option Int} (ha : PV X ρ a ma (aD dS)) (hb : PV X ρ b mi (aD dI)) (hs : PlainIx b) : PV X ρ (.Subscript a b pos) (ma.bind fun xs => mi.bind fun i => signT xs i) (aD dS) := .mk fun z ez σ F H R Q q => by
  obtain ⟨x, ex, ez⟩ := bind_some ez
  obtain ⟨i, ei, ez⟩ := bind_some ez
  refine PE.to (pe_ix ix_str pE pE hs) (ha x ex σ F H R _ fun v F1 H1 x1 d1 => hb i ei σ F1 H1 (R.ext x1) _ fun u F2 H2 x2 d2 => ?_)
  unfold signT at ez
  by_cases hz : x.length ≤ sizeLine
  · rw [if_pos hz] at ez
    cases ea : atI x.cps.toList i with
    | none => rw [ea] at ez; cases ez
    | some c =>
      rw [ea] at ez
      cases ez
      exact ⟨x, i, c, dp_str d1, dp_int d2, hz, ea, q _ F2 H2 (x1.trans x2) (.str _)⟩
  · rw [if_neg hz] at ez; cases ez

/-! slices -/
abbrev POp0 (X : Cx) (ρ : Rho) (o : Option Expr) (m : Option (Option Int)) : Prop :=
  ∀ k, m = some k → ∃ t : TO, PO X o t ∧ ∀ (σ : L2.St) (F H : Hp), Rel X.K ρ σ F H → ∀ Q : Option Int → Hp → Prop, (∀ F' H', Ext F H F' H' → Q k H') → t σ H Q
structure POp (X : Cx) (ρ : Rho) (o : Option Expr) (m : Option (Option Int)) : Prop where
  run : POp0 X ρ o m
instance (X : Cx) (ρ : Rho) (o : Option Expr) (m : Option (Option Int)) : CoeFun (POp X ρ o m) (fun _ => POp0 X ρ o m) := ⟨fun h => h.run⟩
theorem pop_none : POp X ρ none (some none) := .mk fun k e => by cases e; exact ⟨_, po_none, fun σ F H R Q q => q F H (Ext.refl R.sub)⟩
theorem pop_some {m : Option Int} (h : PV X ρ a m (aD dI)) : POp X ρ (some a) (m.bind fun i => some (some i)) := .mk fun k e => by
  obtain ⟨i, ei, e⟩ := bind_some e
  cases e
  exact ⟨_, po_some pE, fun σ F H R Q q => h i ei σ F H R _ fun v F1 H1 x1 d1 => ⟨i, dp_int d1, q F1 H1 x1⟩⟩
/-- xs[lo:hi] -/
def cutL (xs : List α) (lo hi : Option Int) : List α := (xs.drop (HT.sIx xs.length 0 lo)).take (HT.sIx xs.length xs.length hi - HT.sIx xs.length 0 lo)
theorem cutL_map (f : α → β) (xs : List α) (lo hi : Option Int) : (cutL xs lo hi).map f = cutL (xs.map f) lo hi := by
  unfold cutL
  rw [List.map_take, List.map_drop, List.length_map]
theorem DpAll.cut {K : PySem.W.Frag} {F : Hp} {vs : List V} {ds : List D} (h : DpAll K F vs ds) (lo hi : Option Int) : DpAll K F (cutV vs lo hi) (cutL ds lo hi) := by
  unfold cutV cutL
  rw [DpAll.length h]
  exact DpAll.take _ (DpAll.drop _ h)
theorem pn_slice {f1 : List α → AD} {f : α → D} {ma : Option (List α)} {ml mh : Option (Option Int)} {lo hi : Option Expr} (ha : PV X ρ a ma f1) (hl : POp X ρ lo ml) (hh : POp X ρ hi mh) (h : ∀ xs, (f1 xs).dat = .list (xs.map f) := by intro _; rfl) :
    PN X ρ (.Subscript a (.Slice lo hi none p2) pos) (ma.bind fun xs => ml.bind fun i => mh.bind fun j => some (cutL xs i j)) (fun xs => xs.map f) := .mk fun z ez σ F H R Q q => by
  obtain ⟨x, ex, ez⟩ := bind_some ez
  obtain ⟨i, ei, ez⟩ := bind_some ez
  obtain ⟨j, ej, ez⟩ := bind_some ez
  cases ez
  obtain ⟨tl, pl, kl⟩ := hl i ei
  obtain ⟨th, ph, kh⟩ := hh j ej
  refine PE.to (pe_slice sl_list pE pl ph) (ha x ex σ F H R _ fun v F1 H1 x1 d1 => kl σ F1 H1 (R.ext x1) _ fun F2 H2 x2 => kh σ F2 H2 (R.ext (x1.trans x2)) _ fun F3 H3 x3 => ?_)
  obtain ⟨p, vs, rfl, hs, hd⟩ := (d1.ext (x2.trans x3)).lst x3.fh (h x)
  refine ⟨p, vs, rfl, hs, fun l hl => ?_⟩
  refine q l _ F3 _ (x1.trans (x2.trans (x3.trans (Ext.newOwn x3.fh hl _)))) (x1.hh.free (x2.hh.free (x3.hh.free hl))) upd_same (x3.fh.free hl) ?_
  show DpAll _ _ _ (List.map f (cutL x i j))
  rw [cutL_map]
  exact DpAll.cut hd i j
/-- xs[::-1] -/
theorem pn_rev {f1 : List α → AD} {f : α → D} {ma : Option (List α)} {k : Nat} {p1 p2 p3 : Pos} (ha : PV X ρ a ma f1) (h : ∀ xs, (f1 xs).dat = .list (xs.map f) := by intro _; rfl) :
    PN X ρ (.Subscript a (.Slice none none (some (.UnaryOp .USub (.Constant (.int 1) k p1) p2)) p3) pos) (ma.bind fun xs => some xs.reverse) (fun xs => xs.map f) := .mk fun z ez σ F H R Q q => by
  obtain ⟨x, ex, ez⟩ := bind_some ez
  cases ez
  refine PE.to (pe_revL pE) (ha x ex σ F H R _ fun v F1 H1 x1 d1 => ?_)
  obtain ⟨p, vs, rfl, hs, hd⟩ := d1.lst x1.fh (h x)
  refine ⟨p, vs, rfl, hs, fun l hl => ?_⟩
  refine q l _ F1 _ (x1.trans (Ext.newOwn x1.fh hl _)) (x1.hh.free hl) upd_same (x1.fh.free hl) ?_
  show DpAll _ _ _ (List.map f x.reverse)
  rw [List.map_reverse]
  exact DpAll.reverse hd
/-- z[lo:hi] of a text -/
def cutZ (z : Str) (lo hi : Option Int) : Option Str := if z.length ≤ sizeLine then some (cutS z lo hi) else none
theorem pv_sliceS {ma : Option Str} {ml mh : Option (Option Int)} {lo hi : Option Expr} (ha : PV X ρ a ma (aD dS)) (hl : POp X ρ lo ml) (hh : POp X ρ hi mh) :
    PV X ρ (.Subscript a (.Slice lo hi none p2) pos) (ma.bind fun xs => ml.bind fun i => mh.bind fun j => cutZ xs i j) (aD dS) := .mk fun z ez σ F H R Q q => by
  obtain ⟨x, ex, ez⟩ := bind_some ez
  obtain ⟨i, ei, ez⟩ := bind_some ez
  obtain ⟨j, ej, ez⟩ := bind_some ez
  obtain ⟨tl, pl, kl⟩ := hl i ei
  obtain ⟨th, ph, kh⟩ := hh j ej
  obtain ⟨hz, rfl⟩ := ite_some ez
  exact PE.to (pe_slice sl_str pE pl ph) (ha x ex σ F H R _ fun v F1 H1 x1 d1 => kl σ F1 H1 (R.ext x1) _ fun F2 H2 x2 => kh σ F2 H2 (R.ext (x1.trans x2)) _ fun F3 H3 x3 =>
      ⟨x, dp_str d1, hz, q _ F3 H3 (x1.trans (x2.trans x3)) (.str _)⟩)
end
end VS
set_option Elab.async false
set_option linter.all false
set_option maxRecDepth 100000
namespace VS
open PySem PySem.Spec PyProof.Rows L2

/-! ### what is walked -/
section
variable (X : Cx) {α β γ δ : Type}
def tI (tg iter : Expr) : TI := fun σ H R => ∀ pins s, Inv X pins σ H s → wpAny (model X.prog X.w) X.A (eval iter X.env) (fun v s1 => wpAny (model X.prog X.w) X.A (pyIter v) (PIE X pins σ tg R) X.xe s1) X.xe s
theorem pI {tg iter : Expr} : PI X tg iter (tI X tg iter) := ⟨fun pins s σ H R I h => h pins s I⟩
theorem PI.to {X : Cx} {tg iter : Expr} {t : TI} (p : PI X tg iter t) {σ : L2.St} {H : Hp} {R : It → Hp → Prop} (h : t σ H R) : tI X tg iter σ H R := fun pins s I => p.run pins s σ H R I h
/-- J yields ds, one by one, while what G says holds -/
structure Yields (K : PySem.W.Frag) (J : It) (G : Hp → Hp → Prop) (ds : List D) : Prop where
  go : ∀ (i : Nat) F H, i < ds.length → G F H → J.go i H
  stop : ∀ F H, G F H → J.stop ds.length H
  yld : ∀ (i : Nat) F H x H' d, G F H → Same F H → ds[i]? = some d → J.yld i H x H' → ∃ F', Ext F H F' H' ∧ Dp K F' x d
/-- the items its come from iter; st: whether it stands own lists being changed meanwhile -/
abbrev PIt0 (ρ : Rho) (tg iter : Expr) (m : Option (List γ)) (f : γ → D) (st : Bool) : Prop :=
  ∀ its, m = some its → ∀ (σ : L2.St) (F H : Hp), Rel X.K ρ σ F H → ∀ R : It → Hp → Prop, (∀ J F1 H1, Ext F H F1 H1 → Yields X.K J (fun F' H' => if st = true then Same F1 F' ∧ Same F' H' else Ext F1 H1 F' H') (its.map f) → R J H1) → tI X tg iter σ H R
structure PIt (ρ : Rho) (tg iter : Expr) (m : Option (List γ)) (f : γ → D) (st : Bool) : Prop where
  run : PIt0 X ρ tg iter m f st
instance (ρ : Rho) (tg iter : Expr) (m : Option (List γ)) (f : γ → D) (st : Bool) : CoeFun (PIt X ρ tg iter m f st) (fun _ => PIt0 X ρ tg iter m f st) := ⟨fun h => h.run⟩
end
section
variable {X : Cx} {α β γ δ : Type} {ρ : Rho} {a b e tg iter : Expr} {es : List Expr} {pos p : Pos}
theorem Yields.mono {K : PySem.W.Frag} {J : It} {G G' : Hp → Hp → Prop} {ds : List D} (y : Yields K J G ds) (h : ∀ F H, G' F H → G F H) : Yields K J G' ds :=
  ⟨fun i F H hi g => y.go i F H hi (h F H g), fun F H g => y.stop F H (h F H g), fun i F H x H' d g => y.yld i F H x H' d (h F H g)⟩
theorem PIt.pure {m : Option (List γ)} {f : γ → D} {st : Bool} (h : PIt X ρ tg iter m f st) : PIt X ρ tg iter m f false := .mk fun its e σ F H R Rq q =>
  h its e σ F H R Rq fun J F1 H1 x1 y => q J F1 H1 x1 (y.mono fun F' H' g => by
    cases st with
    | true => exact ⟨(show Ext F1 H1 F' H' from g).ff, (show Ext F1 H1 F' H' from g).fh⟩
    | false => exact g)
theorem yields_list {K : PySem.W.Frag} {G : Hp → Hp → Prop} {p : Addr} {vs : List V} {ds : List D} (h : ∀ F H, G F H → SqL K H p vs ∧ DpAll K F vs ds) : Yields K (Itl K p) G ds := by
  refine ⟨fun i F H hi g => ?_, fun F H g => ?_, fun i F H x H' d g s hd y => ?_⟩
  · obtain ⟨a, b⟩ := h F H g
    have hi' : i < vs.length := by rw [DpAll.length b]; exact hi
    exact ⟨vs, vs[i], a, by simp [hi']⟩
  · obtain ⟨a, b⟩ := h F H g
    exact ⟨vs, a, by rw [DpAll.length b]; exact Nat.le_refl _⟩
  · obtain ⟨a, b⟩ := h F H g
    obtain ⟨rfl, y⟩ := y
    obtain ⟨v, hv, hdv⟩ := DpAll.get' b hd
    have := y vs a
    rw [hv] at this
    cases this
    exact ⟨F, Ext.refl s, hdv⟩
theorem yields_tup {K : PySem.W.Frag} {G : Hp → Hp → Prop} {p : Addr} {vs : List V} {ds : List D} (h : ∀ F H, G F H → SqT K H p vs ∧ DpAll K F vs ds) : Yields K (Itt K p) G ds := by
  refine ⟨fun i F H hi g => ?_, fun F H g => ?_, fun i F H x H' d g s hd y => ?_⟩
  · obtain ⟨a, b⟩ := h F H g
    have hi' : i < vs.length := by rw [DpAll.length b]; exact hi
    exact ⟨vs, vs[i], a, by simp [hi']⟩
  · obtain ⟨a, b⟩ := h F H g
    exact ⟨vs, a, by rw [DpAll.length b]; exact Nat.le_refl _⟩
  · obtain ⟨a, b⟩ := h F H g
    obtain ⟨rfl, y⟩ := y
    obtain ⟨v, hv, hdv⟩ := DpAll.get' b hd
    have := y vs a
    rw [hv] at this
    cases this
    exact ⟨F, Ext.refl s, hdv⟩
/-- over a frozen list -/
theorem pit_val {m : Option (List γ)} {f : γ → D} (h : PV X ρ iter m (aD (dL f))) : PIt X ρ tg iter m f true := .mk fun its e σ F H R Rq q =>
  PI.to (pi_list pE) (h its e σ F H R _ fun v F1 H1 x1 d1 => by
    obtain ⟨p, vs, rfl, hs, hd⟩ := dp_lst d1
    exact ⟨p, rfl, ⟨vs, x1.fh.seq hs⟩, q _ F1 H1 x1 (yields_list fun F' H' g => ⟨g.2.seq (g.1.seq hs), DpAll.mono g.1 hd⟩)⟩)
/-- over a new list -/
theorem pit_new {m : Option (List γ)} {f : γ → D} (h : PN X ρ iter m (fun xs => xs.map f)) : PIt X ρ tg iter m f true := pit_val (pv_list h)
/-- over a list that stands while nothing but new objects comes -/
theorem pit_own {m : Option (List γ)} {f : γ → D} {f1 : List γ → AD} (h : PV X ρ iter m f1) (hf : ∀ xs, (f1 xs).dat = .list (xs.map f) := by intro _; rfl) : PIt X ρ tg iter m f false := .mk fun its e σ F H R Rq q =>
  PI.to (pi_list pE) (h its e σ F H R _ fun v F1 H1 x1 d1 => by
    obtain ⟨p, vs, rfl, hs, hd⟩ := d1.lst x1.fh (hf its)
    exact ⟨p, rfl, ⟨vs, hs⟩, q _ F1 H1 x1 (yields_list fun F' H' g => ⟨(show Ext F1 H1 F' H' from g).hh.seq hs, DpAll.mono (show Ext F1 H1 F' H' from g).ff hd⟩)⟩)
theorem pit_tup {m : Option (List γ)} {f : γ → D} (h : PV X ρ iter m (aD (dT f))) : PIt X ρ tg iter m f true := .mk fun its e σ F H R Rq q =>
  PI.to (pi_tup pE) (h its e σ F H R _ fun v F1 H1 x1 d1 => by
    obtain ⟨p, vs, rfl, hs, hd⟩ := dp_tup d1
    exact ⟨p, rfl, ⟨vs, sqT_mono x1.fh hs⟩, q _ F1 H1 x1 (yields_tup fun F' H' g => ⟨sqT_mono g.2 (sqT_mono g.1 hs), DpAll.mono g.1 hd⟩)⟩)
/-- the items of a tuple of written size -/
theorem pit_seqD {m : Option α} {f1 : α → D} {ds : α → List γ} {f : γ → D} (h : PV X ρ iter m (aD f1)) (hd : ∀ x, f1 x = .tuple ((ds x).map f)) : PIt X ρ tg iter (m.bind fun x => some (ds x)) f true := .mk fun its e σ F H R Rq q => by
  obtain ⟨x, ex, e⟩ := bind_some e
  cases e
  exact PI.to (pi_tup pE) (h x ex σ F H R _ fun v F1 H1 x1 d1 => by
    have d1' : Dp X.K F1 v (.tuple ((ds x).map f)) := by rw [← hd]; exact d1
    obtain ⟨p, vs, rfl, hs, hd⟩ := dp_tup d1'
    exact ⟨p, rfl, ⟨vs, sqT_mono x1.fh hs⟩, q _ F1 H1 x1 (yields_tup fun F' H' g => ⟨sqT_mono g.2 (sqT_mono g.1 hs), DpAll.mono g.1 hd⟩)⟩)
def rngL (lo : Int) (n : Nat) : List Int := (List.range n).map fun (i : Nat) => lo + (i : Int)
theorem rngL_len (lo : Int) (n : Nat) : ((rngL lo n).map dI).length = n := by unfold rngL; simp
theorem yields_range {K : PySem.W.Frag} {G : Hp → Hp → Prop} {lo : Int} {n : Nat} : Yields K (Itr lo n) G ((rngL lo n).map dI) := by
  refine ⟨fun i F H hi g => ?_, fun F H g => ?_, fun i F H x H' d g s hd y => ?_⟩
  · rw [rngL_len] at hi; exact hi
  · rw [rngL_len]; exact Nat.le_refl _
  · obtain ⟨rfl, rfl⟩ := y
    have hi : i < n := by
      have := (List.getElem?_eq_some_iff.mp hd).1
      rw [rngL_len] at this
      exact this
    have e : d = dI (lo + (i : Int)) := by
      unfold rngL at hd
      rw [List.map_map, List.getElem?_map, List.getElem?_range hi] at hd
      exact (Option.some.inj hd).symm
    subst e
    exact ⟨F, Ext.refl s, .int _⟩
def big (i : Int) : Prop := i.natAbs.log2 < 62
instance (i : Int) : Decidable (big i) := inferInstanceAs (Decidable (i.natAbs.log2 < 62))
theorem big_nat {i : Int} (h : i.natAbs < 2 ^ 62) : big i := by
  show i.natAbs.log2 < 62
  by_cases z : i.natAbs = 0
  · rw [z]; decide
  · exact (Nat.log2_lt z).mpr h
theorem big_bd {i : Int} (h : big i) : -(2 ^ 62) ≤ i ∧ i < 2 ^ 62 := by
  have h' : i.natAbs.log2 < 62 := h
  by_cases z : i.natAbs = 0
  · omega
  · have := (Nat.log2_lt z).mp h'
    omega
def range1 (n : Int) : Option (List Int) := if big n then some (rngL 0 n.toNat) else none
def range2 (i j : Int) : Option (List Int) := if big i ∧ big j then some (rngL i (j - i).toNat) else none
theorem pit_range1 {m : Option Int} (hg : Gl X "range") (hm : X.mg "range" = none) (h : PV X ρ a m (aD dI)) (hs : starEach [a] X.env = [(false, eval a X.env)] := by rfl) : PIt X ρ tg (.Call (.Name "range" p) [a] [] pos) (m.bind range1) dI true := .mk fun its e σ F H R Rq q => by
  obtain ⟨n, en, e⟩ := bind_some e
  obtain ⟨hb, rfl⟩ := ite_some e
  refine PI.to (pi_range1 hg hm (pa_cons pE pa_nil hs) hs) (h n en σ F H R _ fun v F1 H1 x1 d1 => ?_)
  cases dp_int d1
  exact ⟨n, rfl, (big_bd hb).1, (big_bd hb).2, q _ F1 H1 x1 yields_range⟩
theorem pit_range2 {m m' : Option Int} (hg : Gl X "range") (hm : X.mg "range" = none) (h : PV X ρ a m (aD dI)) (h' : PV X ρ b m' (aD dI)) (hs : starEach [a, b] X.env = [(false, eval a X.env), (false, eval b X.env)] := by rfl) (hs2 : starEach [b] X.env = [(false, eval b X.env)] := by rfl) :
    PIt X ρ tg (.Call (.Name "range" p) [a, b] [] pos) (m.bind fun i => m'.bind fun j => range2 i j) dI true := .mk fun its e σ F H R Rq q => by
  obtain ⟨i, ei, e⟩ := bind_some e
  obtain ⟨j, ej, e⟩ := bind_some e
  obtain ⟨hb, rfl⟩ := ite_some e
  have hs1 : starEach [a, b] X.env = (false, eval a X.env) :: starEach [b] X.env := by rw [hs, hs2]
  refine PI.to (pi_range2 hg hm (pa_cons pE (pa_cons pE pa_nil hs2) hs1) hs hs2) (h i ei σ F H R _ fun v F1 H1 x1 d1 => h' j ej σ F1 H1 (R.ext x1) _ fun u F2 H2 x2 d2 => ?_)
  cases dp_int d1
  cases dp_int d2
  exact ⟨i, j, rfl, ⟨(big_bd hb.1).1, (big_bd hb.1).2, (big_bd hb.2).1, (big_bd hb.2).2⟩, q _ F2 H2 (x1.trans x2) yields_range⟩
/-- range with a written step -/
def rngC (lo c : Int) (n : Nat) : List Int := (List.range n).map fun (i : Nat) => lo + (i : Int) * c
theorem yields_rangeC {K : PySem.W.Frag} {G : Hp → Hp → Prop} {lo c : Int} {n : Nat} : Yields K (Itc lo c n) G ((rngC lo c n).map dI) := by
  have hl : ((rngC lo c n).map dI).length = n := by unfold rngC; simp
  refine ⟨fun i F H hi g => ?_, fun F H g => ?_, fun i F H x H' d g s hd y => ?_⟩
  · rw [hl] at hi; exact hi
  · rw [hl]; exact Nat.le_refl _
  · obtain ⟨rfl, rfl⟩ := y
    have hi : i < n := by
      have := (List.getElem?_eq_some_iff.mp hd).1
      rw [hl] at this
      exact this
    have e : d = dI (lo + (i : Int) * c) := by
      unfold rngC at hd
      rw [List.map_map, List.getElem?_map, List.getElem?_range hi] at hd
      exact (Option.some.inj hd).symm
    subst e
    exact ⟨F, Ext.refl s, .int _⟩
/-- a pair of items: a new tuple each -/
theorem yields_pair {K : PySem.W.Frag} {G : Hp → Hp → Prop} {J : It} {f : α → D} {g : β → D} {zs : List (α × β)} {xs ys : Nat → Option V} (hgo : ∀ (i : Nat) F H, i < zs.length → G F H → J.go i H) (hst : ∀ F H, G F H → J.stop zs.length H)
    (hy : ∀ (i : Nat) F H v H', i < zs.length → G F H → J.yld i H v H' → YPair xs ys i H v H')
    (hv : ∀ (i : Nat) F H z x y, G F H → zs[i]? = some z → xs i = some x → ys i = some y → Dp K F x (f z.1) ∧ Dp K F y (g z.2)) : Yields K J G (zs.map (d2 f g)) := by
  refine ⟨fun i F H hi => hgo i F H (by simpa using hi), fun F H gg => by rw [List.length_map]; exact hst F H gg, fun i F H v H' d gg s hd y => ?_⟩
  rw [List.getElem?_map] at hd
  cases ez : zs[i]? with
  | none => rw [ez] at hd; cases hd
  | some z =>
    rw [ez] at hd
    cases hd
    have hi : i < zs.length := (List.getElem?_eq_some_iff.mp ez).1
    obtain ⟨T, x, w, rfl, hT, rfl, h1, h2⟩ := hy i F H v H' hi gg y
    obtain ⟨k1, k2⟩ := hv i F H z x w gg ez h1 h2
    have x2 := Ext.new s hT (.tup [x, w])
    exact ⟨_, x2, Dp.tup (SqT.of upd_same) (DpAll.cons (Dp.mono x2.ff k1) (DpAll.cons (Dp.mono x2.ff k2) DpAll.nil))⟩
def zipT (xs : List α) (ys : List β) : Option (List (α × β)) := some (xs.zip ys)
theorem pit_zip {ma : Option (List α)} {mb : Option (List β)} {f1 : List α → AD} {f2 : List β → AD} {f : α → D} {g : β → D} {tpos : Pos} {elts : List Expr} {kk : Nat} (hg : Gl X "zip") (hm : X.mg "zip" = none) (ha : PV X ρ a ma f1) (hb : PV X ρ b mb f2)
    (h1 : ∀ xs, (f1 xs).dat = .list (xs.map f) := by intro _; rfl) (h2 : ∀ xs, (f2 xs).dat = .list (xs.map g) := by intro _; rfl)
    (hs : starEach [a, b] X.env = [(false, eval a X.env), (false, eval b X.env)] := by rfl) (hs2 : starEach [b] X.env = [(false, eval b X.env)] := by rfl) (hpl : (backTo pos (starEach [b] X.env)).any (·.1) = false := by rfl) :
    PIt X ρ (.Tuple elts kk tpos) (.Call (.Name "zip" p) [a, b] [] pos) (ma.bind fun x => mb.bind fun y => zipT x y) (d2 f g) false := .mk fun its e σ F H R Rq q => by
  obtain ⟨xs, ex, e⟩ := bind_some e
  obtain ⟨ys, ey, e⟩ := bind_some e
  cases e
  have hs1 : starEach [a, b] X.env = (false, eval a X.env) :: starEach [b] X.env := by rw [hs, hs2]
  refine PI.to (pi_zip hg hm (pa_cons pE (pa_cons pE pa_nil hs2) hs1) hs1 hpl) (ha xs ex σ F H R _ fun v F1 H1 x1 d1 => hb ys ey σ F1 H1 (R.ext x1) _ fun u F2 H2 x2 d2 => ?_)
  obtain ⟨pa, va, rfl, sa, da⟩ := (d1.ext x2).lst x2.fh (h1 xs)
  obtain ⟨pb, vb, rfl, sb, db⟩ := d2.lst x2.fh (h2 ys)
  refine ⟨pa, pb, va, vb, rfl, sa, sb, q _ F2 H2 (x1.trans x2) ?_⟩
  have w := walk_zip (K := X.K) (a := pa) (b := pb) (xs := va) (ys := vb) (n := (xs.zip ys).length) (by rw [List.length_zip, DpAll.length da, DpAll.length db, List.length_map, List.length_map])
  refine yields_pair (xs := fun i => va[i]?) (ys := fun i => vb[i]?) (fun i F' H' hi gg => w.goes i H' hi ⟨gg.hh.seq sa, gg.hh.seq sb⟩) (fun F' H' gg => w.stops H' ⟨gg.hh.seq sa, gg.hh.seq sb⟩) (fun i F' H' v H'' hi gg y => w.yields i H' v H'' hi ⟨gg.hh.seq sa, gg.hh.seq sb⟩ y) fun i F' H' z x y gg hz hx hy => ?_
  obtain ⟨hz1, hz2⟩ := List.getElem?_zip_eq_some.mp hz
  obtain ⟨dx, e1, k1⟩ := DpAll.get da hx
  obtain ⟨dy, e2, k2⟩ := DpAll.get db hy
  rw [List.getElem?_map, hz1] at e1
  rw [List.getElem?_map, hz2] at e2
  cases e1
  cases e2
  exact ⟨Dp.mono (show Ext F2 H2 F' H' from gg).ff k1, Dp.mono (show Ext F2 H2 F' H' from gg).ff k2⟩
/-- zip of frozen lists -/
theorem pit_zipF {ma : Option (List α)} {mb : Option (List β)} {f : α → D} {g : β → D} {tpos : Pos} {elts : List Expr} {kk : Nat} (hg : Gl X "zip") (hm : X.mg "zip" = none) (ha : PV X ρ a ma (aD (dL f))) (hb : PV X ρ b mb (aD (dL g)))
    (hs : starEach [a, b] X.env = [(false, eval a X.env), (false, eval b X.env)] := by rfl) (hs2 : starEach [b] X.env = [(false, eval b X.env)] := by rfl) (hpl : (backTo pos (starEach [b] X.env)).any (·.1) = false := by rfl) :
    PIt X ρ (.Tuple elts kk tpos) (.Call (.Name "zip" p) [a, b] [] pos) (ma.bind fun x => mb.bind fun y => zipT x y) (d2 f g) true := .mk fun its e σ F H R Rq q => by
  obtain ⟨xs, ex, e⟩ := bind_some e
  obtain ⟨ys, ey, e⟩ := bind_some e
  cases e
  have hs1 : starEach [a, b] X.env = (false, eval a X.env) :: starEach [b] X.env := by rw [hs, hs2]
  refine PI.to (pi_zip hg hm (pa_cons pE (pa_cons pE pa_nil hs2) hs1) hs1 hpl) (ha xs ex σ F H R _ fun v F1 H1 x1 d1 => hb ys ey σ F1 H1 (R.ext x1) _ fun u F2 H2 x2 d2 => ?_)
  obtain ⟨pa, va, rfl, sa, da⟩ := dp_lst (Dp.mono x2.ff d1)
  obtain ⟨pb, vb, rfl, sb, db⟩ := dp_lst d2
  refine ⟨pa, pb, va, vb, rfl, x2.fh.seq sa, x2.fh.seq sb, q _ F2 H2 (x1.trans x2) ?_⟩
  have w := walk_zip (K := X.K) (a := pa) (b := pb) (xs := va) (ys := vb) (n := (xs.zip ys).length) (by rw [List.length_zip, DpAll.length da, DpAll.length db, List.length_map, List.length_map])
  refine yields_pair (xs := fun i => va[i]?) (ys := fun i => vb[i]?) (fun i F' H' hi gg => w.goes i H' hi ⟨gg.2.seq (gg.1.seq sa), gg.2.seq (gg.1.seq sb)⟩) (fun F' H' gg => w.stops H' ⟨gg.2.seq (gg.1.seq sa), gg.2.seq (gg.1.seq sb)⟩) (fun i F' H' v H'' hi gg y => w.yields i H' v H'' hi ⟨gg.2.seq (gg.1.seq sa), gg.2.seq (gg.1.seq sb)⟩ y) fun i F' H' z x y gg hz hx hy => ?_
  obtain ⟨hz1, hz2⟩ := List.getElem?_zip_eq_some.mp hz
  obtain ⟨dx, e1, k1⟩ := DpAll.get da hx
  obtain ⟨dy, e2, k2⟩ := DpAll.get db hy
  rw [List.getElem?_map, hz1] at e1
  rw [List.getElem?_map, hz2] at e2
  cases e1
  cases e2
  exact ⟨Dp.mono gg.1 k1, Dp.mono gg.1 k2⟩
/-- enumerate of a frozen list -/
def enumT (xs : List α) : Option (List (Int × α)) := some ((rngL 0 xs.length).zip xs)
theorem pit_enum {ma : Option (List α)} {f : α → D} {tpos : Pos} {elts : List Expr} {kk : Nat} (hg : Gl X "enumerate") (hm : X.mg "enumerate" = none) (ha : PV X ρ a ma (aD (dL f))) (hs : starEach [a] X.env = [(false, eval a X.env)] := by rfl) :
    PIt X ρ (.Tuple elts kk tpos) (.Call (.Name "enumerate" p) [a] [] pos) (ma.bind enumT) (d2 dI f) true := .mk fun its e σ F H R Rq q => by
  obtain ⟨xs, ex, e⟩ := bind_some e
  cases e
  refine PI.to (pi_enum hg hm (pa_cons pE pa_nil hs) hs) (ha xs ex σ F H R _ fun v F1 H1 x1 d1 => ?_)
  obtain ⟨pa, va, rfl, sa, da⟩ := dp_lst d1
  have hl : va.length = xs.length := by rw [DpAll.length da, List.length_map]
  refine ⟨pa, va, rfl, x1.fh.seq sa, q _ F1 H1 x1 ?_⟩
  have w := walk_enum (K := X.K) (a := pa) (xs := va)
  have hz : ((rngL 0 xs.length).zip xs).length = va.length := by rw [List.length_zip, hl]; unfold rngL; simp
  refine yields_pair (xs := fun i => some (.int (i : Nat))) (ys := fun i => va[i]?) (fun i F' H' hi gg => w.goes i H' (by omega) (gg.2.seq (gg.1.seq sa))) (fun F' H' gg => by rw [hz]; exact w.stops H' (gg.2.seq (gg.1.seq sa))) (fun i F' H' v H'' hi gg y => w.yields i H' v H'' (by omega) (gg.2.seq (gg.1.seq sa)) y) fun i F' H' z x y gg hz hx hy => ?_
  obtain ⟨hz1, hz2⟩ := List.getElem?_zip_eq_some.mp hz
  obtain ⟨dy, e2, k2⟩ := DpAll.get da hy
  rw [List.getElem?_map, hz2] at e2
  cases e2
  have hi : i < xs.length := (List.getElem?_eq_some_iff.mp hz2).1
  unfold rngL at hz1
  rw [List.getElem?_map, List.getElem?_range hi] at hz1
  have e1 : z.1 = (i : Int) := by
    have h' : (0 : Int) + (i : Int) = z.1 := Option.some.inj hz1
    omega
  refine ⟨?_, Dp.mono gg.1 k2⟩
  cases hx
  rw [e1]
  exact .int _
/-- reversed of a frozen list -/
theorem yields_rev {K : PySem.W.Frag} {G : Hp → Hp → Prop} {p : Addr} {vs : List V} {ds : List D} (h : ∀ F H, G F H → SqL K H p vs ∧ DpAll K F vs ds) (hl : vs.length = ds.length) : Yields K (Itv K p vs.length) G ds.reverse := by
  have w := walk_rev (K := K) (a := p) (xs := vs)
  refine ⟨fun i F H hi g => w.goes i H (by rw [hl, ← List.length_reverse]; exact hi) (h F H g).1, fun F H g => by rw [List.length_reverse, ← hl]; exact w.stops H (h F H g).1, fun i F H x H' d g s hd y => ?_⟩
  have hi : i < ds.length := by
    have := (List.getElem?_eq_some_iff.mp hd).1
    rw [List.length_reverse] at this
    exact this
  obtain ⟨rfl, hx⟩ := w.yields i H x H' (by omega) (h F H g).1 y
  obtain ⟨d', e, k⟩ := DpAll.get (h F H' g).2 hx
  rw [List.getElem?_reverse hi, ← hl] at hd
  rw [hd] at e
  cases e
  exact ⟨F, Ext.refl s, k⟩
theorem pit_reversed {ma : Option (List α)} {f : α → D} (hg : Gl X "reversed") (hm : X.mg "reversed" = none) (ha : PV X ρ a ma (aD (dL f))) (hs : starEach [a] X.env = [(false, eval a X.env)] := by rfl) :
    PIt X ρ tg (.Call (.Name "reversed" p) [a] [] pos) (ma.bind fun xs => some xs.reverse) f true := .mk fun its e σ F H R Rq q => by
  obtain ⟨xs, ex, e⟩ := bind_some e
  cases e
  refine PI.to (pi_reversed hg hm (pa_cons pE pa_nil hs) hs) (ha xs ex σ F H R _ fun v F1 H1 x1 d1 => ?_)
  obtain ⟨pa, va, rfl, sa, da⟩ := dp_lst d1
  refine ⟨pa, va, rfl, x1.fh.seq sa, q _ F1 H1 x1 ?_⟩
  rw [List.map_reverse]
  exact yields_rev (fun F' H' gg => ⟨gg.2.seq (gg.1.seq sa), DpAll.mono gg.1 da⟩) (DpAll.length da)
/-- the signs of a text -/
def signsT (z : Str) : Option (List Str) := some (z.cps.toList.map fun c => ⟨#[c]⟩)
theorem pit_str {ma : Option Str} (ha : PV X ρ iter ma (aD dS)) : PIt X ρ tg iter (ma.bind signsT) dS true := .mk fun its e σ F H R Rq q => by
  obtain ⟨x, ex, e⟩ := bind_some e
  cases e
  refine PI.to (pi_str pE) (ha x ex σ F H R _ fun v F1 H1 x1 d1 => ⟨x, dp_str d1, q _ F1 H1 x1 ?_⟩)
  have w := walk_str (z := x)
  have hl : ((x.cps.toList.map fun c => (⟨#[c]⟩ : Str)).map dS).length = x.cps.size := by simp
  refine ⟨fun i F H hi g => w.goes i H (by rw [hl] at hi; exact hi) trivial, fun F H g => by rw [hl]; exact w.stops H trivial, fun i F H v H' d g s hd y => ?_⟩
  have hi : i < x.cps.size := by
    have := (List.getElem?_eq_some_iff.mp hd).1
    rw [hl] at this
    exact this
  obtain ⟨rfl, c, hc, rfl⟩ := w.yields i H v H' hi trivial y
  rw [List.getElem?_map, List.getElem?_map, Array.getElem?_toList, hc] at hd
  cases hd
  exact ⟨F, Ext.refl s, .str _⟩
end

/-! ### slots changed -/
section
variable {K : PySem.W.Frag} {ρ : Rho} {σ : L2.St} {F H F' H' : Hp} {i : Nat}
theorem ownAt_set {s : Sl} {v : Option V} {j : Nat} {b : Addr} (hs : s.isOwn = false) (h : ownAt (ρ.set i s) (σ.set i v) j b) : ownAt ρ σ j b := by
  obtain ⟨e, s', es, ow⟩ := h
  by_cases hj : i = j
  · subst hj
    have hi : i < ρ.length := by
      have := (List.getElem?_eq_some_iff.mp es).1
      rw [List.length_set] at this
      exact this
    rw [List.getElem?_set_self hi] at es
    cases es
    rw [hs] at ow
    cases ow
  · rw [List.getElem?_set_ne hj] at es e
    exact ⟨e, s', es, ow⟩
theorem owns_set {s : Sl} {v : Option V} {b : Addr} (hs : s.isOwn = false) (h : owns (ρ.set i s) (σ.set i v) b) : owns ρ σ b := by
  obtain ⟨j, h⟩ := h
  exact ⟨j, ownAt_set hs h⟩
/-- a slot is stored: frozen data or nothing known -/
theorem Rel.set {s : Sl} {v : Option V} (R : Rel K ρ σ F H) (hs : s.isOwn = false) (h : SlOk K F H s (some v)) : Rel K (ρ.set i s) (σ.set i v) F H where
  sub := R.sub
  at_ := fun j s' e => by
    by_cases hj : i = j
    · subst hj
      have hi : i < ρ.length := by
        have := (List.getElem?_eq_some_iff.mp e).1
        rw [List.length_set] at this
        exact this
      rw [List.getElem?_set_self hi] at e
      rw [List.getElem?_set_self (by rw [R.len]; exact hi)]
      cases e
      exact h
    · rw [List.getElem?_set_ne hj] at e ⊢
      exact R.at_ j s' e
  dis := fun j k b hj hk => R.dis j k b (ownAt_set hs hj) (ownAt_set hs hk)
  len := by rw [List.length_set, List.length_set, R.len]
theorem Rel.setV {v : V} {d : D} (R : Rel K ρ σ F H) (h : Dp K F v d) : Rel K (ρ.set i (.val d)) (σ.set i (some v)) F H := R.set rfl ⟨v, rfl, h⟩
theorem Fr.setN {s : Sl} {v : Option V} (hs : s.isOwn = false) (sb : Same F H) : Fr ρ σ F H (ρ.set i s) (σ.set i v) F H :=
  ⟨Same.refl _, fun _ _ e _ => e, fun _ _ e => .inl e, fun _ h => .inl (owns_set hs h), fun _ e => e⟩
/-- a slot is stored: a new list -/
theorem Rel.setO {p : Addr} {vs : List V} {ds : List D} (R : Rel K ρ σ F H) (hp : H p = some (.lst vs)) (hf : F p = none) (hd : DpAll K F vs ds) (hn : ¬ owns ρ σ p) (hi : i < ρ.length) : Rel K (ρ.set i (.own ds)) (σ.set i (some (.ref p))) F H where
  sub := R.sub
  at_ := fun j s' e => by
    by_cases hj : i = j
    · subst hj
      rw [List.getElem?_set_self hi] at e
      rw [List.getElem?_set_self (by rw [R.len]; exact hi)]
      cases e
      exact ⟨p, vs, rfl, hp, hf, hd⟩
    · rw [List.getElem?_set_ne hj] at e ⊢
      exact R.at_ j s' e
  dis := fun j k b hj hk => by
    have other : ∀ {j b}, i ≠ j → ownAt (ρ.set i (.own ds)) (σ.set i (some (.ref p))) j b → ownAt ρ σ j b := fun {j b} hj ⟨e, s', es, ow⟩ => by
      rw [List.getElem?_set_ne hj] at es e
      exact ⟨e, s', es, ow⟩
    have self : ∀ {b}, ownAt (ρ.set i (.own ds)) (σ.set i (some (.ref p))) i b → b = p := fun {b} ⟨e, _⟩ => by
      rw [List.getElem?_set_self (by rw [R.len]; exact hi)] at e
      cases e
      rfl
    by_cases h1 : i = j
    · by_cases h2 : i = k
      · rw [← h1, ← h2]
      · subst h1
        have := self hj
        subst this
        exact absurd ⟨k, other h2 hk⟩ hn
    · by_cases h2 : i = k
      · subst h2
        have := self hk
        subst this
        exact absurd ⟨j, other h1 hj⟩ hn
      · exact R.dis j k b (other h1 hj) (other h2 hk)
  len := by rw [List.length_set, List.length_set, R.len]
theorem owns_setO {p b : Addr} {ds : List D} (h : owns (ρ.set i (.own ds)) (σ.set i (some (.ref p))) b) (hl : σ.length = ρ.length) : owns ρ σ b ∨ b = p := by
  obtain ⟨j, e, s', es, ow⟩ := h
  by_cases hj : i = j
  · subst hj
    have hi : i < ρ.length := by
      have := (List.getElem?_eq_some_iff.mp es).1
      rw [List.length_set] at this
      exact this
    rw [List.getElem?_set_self (by rw [hl]; exact hi)] at e
    cases e
    exact .inr rfl
  · rw [List.getElem?_set_ne hj] at es e
    exact .inl ⟨j, e, s', es, ow⟩
/-- what is known of a slot is forgotten -/
theorem set_un {j : Nat} {s : Sl} (e : (ρ.set i Sl.un)[j]? = some s) : (i = j ∧ s = Sl.un) ∨ (i ≠ j ∧ ρ[j]? = some s) := by
  by_cases hj : i = j
  · subst hj
    have hi : i < ρ.length := by
      have := (List.getElem?_eq_some_iff.mp e).1
      rw [List.length_set] at this
      exact this
    rw [List.getElem?_set_self hi] at e
    cases e
    exact .inl ⟨rfl, rfl⟩
  · rw [List.getElem?_set_ne hj] at e
    exact .inr ⟨hj, e⟩
theorem ownAt_un {j : Nat} {b : Addr} (h : ownAt (ρ.set i Sl.un) σ j b) : ownAt ρ σ j b := by
  obtain ⟨e, s, es, ow⟩ := h
  rcases set_un es with ⟨_, rfl⟩ | ⟨_, es⟩
  · cases ow
  · exact ⟨e, s, es, ow⟩
theorem Rel.forget (i : Nat) (R : Rel K ρ σ F H) : Rel K (ρ.set i Sl.un) σ F H where
  sub := R.sub
  at_ := fun j s e => by
    rcases set_un e with ⟨_, rfl⟩ | ⟨_, es⟩
    · trivial
    · exact R.at_ j s es
  dis := fun j k b hj hk => R.dis j k b (ownAt_un hj) (ownAt_un hk)
  len := by rw [List.length_set, R.len]
theorem Fr.forget (i : Nat) : Fr ρ σ F H (ρ.set i Sl.un) σ F H :=
  ⟨Same.refl _, fun _ _ e _ => e, fun _ _ e => .inl e, fun _ ⟨j, h⟩ => .inl ⟨j, ownAt_un h⟩, fun _ e => e⟩
/-- an own list is frozen -/
theorem Rel.freeze {ds : List D} (R : Rel K ρ σ F H) (hi : ρ[i]? = some (.own ds)) : ∃ F', Rel K (ρ.set i (.val (.list ds))) σ F' H ∧ Fr ρ σ F H (ρ.set i (.val (.list ds))) σ F' H := by
  obtain ⟨p, vs, e, hp, hf, hd⟩ := R.at_ i _ hi
  have hl : i < ρ.length := (List.getElem?_eq_some_iff.mp hi).1
  have sF := same_upd hf (.lst vs)
  have oi : ownAt ρ σ i p := ⟨e, _, hi, rfl⟩
  have own' : ∀ {j b}, ownAt (ρ.set i (.val (.list ds))) σ j b → ownAt ρ σ j b ∧ i ≠ j := fun {j b} ⟨e', s, es, ow⟩ => by
    by_cases hj : i = j
    · subst hj
      rw [List.getElem?_set_self hl] at es
      cases es
      cases ow
    · rw [List.getElem?_set_ne hj] at es
      exact ⟨⟨e', s, es, ow⟩, hj⟩
  have ne : ∀ {j b}, ownAt ρ σ j b → i ≠ j → b ≠ p := fun {j b} h hj hb => by
    subst hb
    exact hj (R.dis _ _ _ oi h)
  refine ⟨upd F p (.lst vs), ⟨fun b o q => ?_, fun j s es => ?_, fun j k b h1 h2 => R.dis j k b (own' h1).1 (own' h2).1, by rw [List.length_set, R.len]⟩, ⟨sF, fun _ _ q _ => q, fun b o q => ?_, fun b ⟨j, h⟩ => .inl ⟨j, (own' h).1⟩, fun _ q => q⟩⟩
  · by_cases hb : b = p
    · subst hb; rw [upd_same] at q; rw [← q]; exact hp
    · rw [upd_ne hb] at q; exact R.sub b o q
  · by_cases hj : i = j
    · subst hj
      rw [List.getElem?_set_self hl] at es
      cases es
      exact ⟨.ref p, e, Dp.lst (SqL.of upd_same) (DpAll.mono sF hd)⟩
    · rw [List.getElem?_set_ne hj] at es
      have q := R.at_ j s es
      cases s with
      | un => trivial
      | val d =>
        obtain ⟨v, e1, d1⟩ := q
        exact ⟨v, e1, Dp.mono sF d1⟩
      | own es' =>
        obtain ⟨p', vs', e1, h1, h2, h3⟩ := q
        have hne := ne ⟨e1, _, es, rfl⟩ hj
        exact ⟨p', vs', e1, h1, by rw [upd_ne hne]; exact h2, DpAll.mono sF h3⟩
      | brw p' es' =>
        obtain ⟨vs', e1, h1, h2, h3⟩ := q
        have hne := ne ⟨e1, _, es, rfl⟩ hj
        exact ⟨vs', e1, h1, by rw [upd_ne hne]; exact h2, DpAll.mono sF h3⟩
  · by_cases hb : b = p
    · subst hb; exact .inr (.inr ⟨i, oi⟩)
    · rw [upd_ne hb] at q; exact .inl q
/-- an own list is changed in place -/
theorem Rel.change {ds : List D} {p : Addr} {vs' : List V} {ds' : List D} (R : Rel K ρ σ F H) (hi : ρ[i]? = some (.own ds)) (e : σ[i]? = some (some (.ref p))) (hd : DpAll K F vs' ds') :
    Rel K (ρ.set i (.own ds')) σ F (upd H p (.lst vs')) ∧ Fr ρ σ F H (ρ.set i (.own ds')) σ F (upd H p (.lst vs')) := by
  obtain ⟨p0, vs0, e0, hp, hf, _⟩ := R.at_ i _ hi
  rw [e] at e0; cases e0
  have hl : i < ρ.length := (List.getElem?_eq_some_iff.mp hi).1
  have oi : ownAt ρ σ i p := ⟨e, _, hi, rfl⟩
  have own' : ∀ {j b}, ownAt (ρ.set i (.own ds')) σ j b → ownAt ρ σ j b := fun {j b} ⟨e', s, es, ow⟩ => by
    by_cases hj : i = j
    · subst hj
      exact ⟨e', _, hi, rfl⟩
    · rw [List.getElem?_set_ne hj] at es
      exact ⟨e', s, es, ow⟩
  have ne : ∀ {j b}, ownAt ρ σ j b → i ≠ j → b ≠ p := fun {j b} h hj hb => by
    subst hb
    exact hj (R.dis _ _ _ oi h)
  refine ⟨⟨fun b o q => ?_, fun j s es => ?_, fun j k b h1 h2 => R.dis j k b (own' h1) (own' h2), by rw [List.length_set, R.len]⟩, ⟨Same.refl _, fun b o q n => ?_, fun _ _ q => .inl q, fun b ⟨j, h⟩ => .inl ⟨j, own' h⟩, fun b q => ?_⟩⟩
  · by_cases hb : b = p
    · subst hb; rw [hf] at q; cases q
    · rw [upd_ne hb]; exact R.sub b o q
  · by_cases hj : i = j
    · subst hj
      rw [List.getElem?_set_self hl] at es
      cases es
      exact ⟨p, vs', e, upd_same, hf, hd⟩
    · rw [List.getElem?_set_ne hj] at es
      have q := R.at_ j s es
      cases s with
      | un => trivial
      | val d => exact q
      | own es' =>
        obtain ⟨p', vs', e1, h1, h2, h3⟩ := q
        have hne := ne ⟨e1, _, es, rfl⟩ hj
        exact ⟨p', vs', e1, by rw [upd_ne hne]; exact h1, h2, h3⟩
      | brw p' es' =>
        obtain ⟨vs', e1, h1, h2, h3⟩ := q
        have hne := ne ⟨e1, _, es, rfl⟩ hj
        exact ⟨vs', e1, by rw [upd_ne hne]; exact h1, h2, h3⟩
  · have hb : b ≠ p := fun z => by subst z; exact n ⟨i, oi⟩
    rw [upd_ne hb]; exact q
  · by_cases hb : b = p
    · subst hb; rw [upd_same] at q; cases q
    · rw [upd_ne hb] at q; exact q
theorem Rel.changeB {ds : List D} {p : Addr} {vs' : List V} {ds' : List D} (R : Rel K ρ σ F H) (hi : ρ[i]? = some (.brw p ds)) (hd : DpAll K F vs' ds') :
    Rel K (ρ.set i (.brw p ds')) σ F (upd H p (.lst vs')) ∧ Fr ρ σ F H (ρ.set i (.brw p ds')) σ F (upd H p (.lst vs')) := by
  obtain ⟨vs0, e, hp, hf, _⟩ := R.at_ i _ hi
  have hl : i < ρ.length := (List.getElem?_eq_some_iff.mp hi).1
  have oi : ownAt ρ σ i p := ⟨e, _, hi, rfl⟩
  have own' : ∀ {j b}, ownAt (ρ.set i (.brw p ds')) σ j b → ownAt ρ σ j b := fun {j b} ⟨e', s, es, ow⟩ => by
    by_cases hj : i = j
    · subst hj
      exact ⟨e', _, hi, rfl⟩
    · rw [List.getElem?_set_ne hj] at es
      exact ⟨e', s, es, ow⟩
  have ne : ∀ {j b}, ownAt ρ σ j b → i ≠ j → b ≠ p := fun {j b} h hj hb => by
    subst hb
    exact hj (R.dis _ _ _ oi h)
  refine ⟨⟨fun b o q => ?_, fun j s es => ?_, fun j k b h1 h2 => R.dis j k b (own' h1) (own' h2), by rw [List.length_set, R.len]⟩, ⟨Same.refl _, fun b o q n => ?_, fun _ _ q => .inl q, fun b ⟨j, h⟩ => .inl ⟨j, own' h⟩, fun b q => ?_⟩⟩
  · by_cases hb : b = p
    · subst hb; rw [hf] at q; cases q
    · rw [upd_ne hb]; exact R.sub b o q
  · by_cases hj : i = j
    · subst hj
      rw [List.getElem?_set_self hl] at es
      cases es
      exact ⟨vs', e, upd_same, hf, hd⟩
    · rw [List.getElem?_set_ne hj] at es
      have q := R.at_ j s es
      cases s with
      | un => trivial
      | val d => exact q
      | own es' =>
        obtain ⟨p', vs', e1, h1, h2, h3⟩ := q
        have hne := ne ⟨e1, _, es, rfl⟩ hj
        exact ⟨p', vs', e1, by rw [upd_ne hne]; exact h1, h2, h3⟩
      | brw p' es' =>
        obtain ⟨vs', e1, h1, h2, h3⟩ := q
        have hne := ne ⟨e1, _, es, rfl⟩ hj
        exact ⟨vs', e1, by rw [upd_ne hne]; exact h1, h2, h3⟩
  · have hb : b ≠ p := fun z => by subst z; exact n ⟨i, oi⟩
    rw [upd_ne hb]; exact q
  · by_cases hb : b = p
    · subst hb; rw [upd_same] at q; cases q
    · rw [upd_ne hb] at q; exact q
end

/-! ### targets -/
/-- g stores a value that is f x: the slots by u; only the slots vs are touched -/
def GV {γ : Type} (K : PySem.W.Frag) (g : TG) (f : γ → D) (u : γ → Rho → Rho) (vs : List Nat) : Prop :=
  ∀ (x : γ) (v : V) (ρ : Rho) (σ : L2.St) (F H : Hp), Rel K ρ σ F H → Dp K F v (f x) → ∀ Q : L2.St → Hp → Prop, (∀ σ', Rel K (u x ρ) σ' F H → Fr ρ σ F H (u x ρ) σ' F H → wipe σ' vs = wipe σ vs → Q σ' H) → g v σ H Q
theorem wipe_set {σ : L2.St} {i : Nat} {o : Option V} : ∀ {vs : List Nat}, i ∈ vs → wipe (σ.set i o) vs = wipe σ vs := by
  intro vs
  induction vs with
  | nil => intro h; cases h
  | cons v vs ih =>
    intro h
    unfold wipe
    by_cases hv : v = i
    · subst hv
      by_cases hm : v ∈ vs
      · rw [ih hm]
      · have e : wipe (σ.set v o) vs = (wipe σ vs).set v o := by
          clear ih h
          induction vs with
          | nil => rfl
          | cons w ws ih2 =>
            have hw : v ≠ w := fun z => hm (by rw [z]; exact List.mem_cons_self)
            unfold wipe
            rw [ih2 fun z => hm (List.mem_cons_of_mem _ z), List.set_comm _ _ hw]
        rw [e, List.set_set]
    · have hm : i ∈ vs := by
        rcases List.mem_cons.mp h with z | z
        · exact absurd z.symm hv
        · exact z
      rw [ih hm]
theorem wipe_sub {σ : L2.St} {vs : List Nat} : ∀ {ws : List Nat}, (∀ i ∈ ws, i ∈ vs) → wipe (wipe σ ws) vs = wipe σ vs
  | [], _ => rfl
  | w :: ws, h => by
    show wipe ((wipe σ ws).set w none) vs = wipe σ vs
    rw [wipe_set (h w List.mem_cons_self), wipe_sub fun i hi => h i (List.mem_cons_of_mem _ hi)]
theorem wipe_wipe {σ : L2.St} {vs : List Nat} : wipe (wipe σ vs) vs = wipe σ vs := wipe_sub fun _ h => h
section
variable {K : PySem.W.Frag} {α β γ δ : Type}
theorem gv_name {f : γ → D} {i : Nat} : GV K (gName i) f (fun x ρ => ρ.set i (.val (f x))) [i] := fun x v ρ σ F H R d Q q =>
  q (σ.set i (some v)) (R.setV d) (Fr.setN rfl R.sub) (wipe_set List.mem_cons_self)
theorem gv_2 {f : α → D} {g : β → D} {i j : Nat} : GV K (gTup K 2 (gCons (gName i) (gCons (gName j) gNil))) (d2 f g) (fun x ρ => (ρ.set i (.val (f x.1))).set j (.val (g x.2))) [i, j] := fun x v ρ σ F H R d Q q => by
  obtain ⟨p, vs, rfl, hs, hd⟩ := dp_tup d
  cases hd with
  | cons h1 t =>
    cases t with
    | cons h2 t =>
      cases t
      refine ⟨p, _, rfl, sqT_mono R.sub hs, rfl, _, _, rfl, _, _, rfl, rfl, ?_⟩
      refine q _ ((R.setV h1).setV h2) ((Fr.setN rfl R.sub).trans (Fr.setN rfl R.sub)) ?_
      rw [wipe_set (by simp), wipe_set (by simp)]
theorem gv_3 {f : α → D} {g : β → D} {h : γ → D} {i j k : Nat} : GV K (gTup K 3 (gCons (gName i) (gCons (gName j) (gCons (gName k) gNil)))) (d3 f g h) (fun x ρ => ((ρ.set i (.val (f x.1))).set j (.val (g x.2.1))).set k (.val (h x.2.2))) [i, j, k] := fun x v ρ σ F H R d Q q => by
  obtain ⟨p, vs, rfl, hs, hd⟩ := dp_tup d
  cases hd with
  | cons h1 t =>
    cases t with
    | cons h2 t =>
      cases t with
      | cons h3 t =>
        cases t
        refine ⟨p, _, rfl, sqT_mono R.sub hs, rfl, _, _, rfl, _, _, rfl, _, _, rfl, rfl, ?_⟩
        refine q _ (((R.setV h1).setV h2).setV h3) (((Fr.setN rfl R.sub).trans (Fr.setN rfl R.sub)).trans (Fr.setN rfl R.sub)) ?_
        rw [wipe_set (by simp), wipe_set (by simp), wipe_set (by simp)]
theorem gv_4 {f : α → D} {g : β → D} {h : γ → D} {l : δ → D} {i j k m : Nat} : GV K (gTup K 4 (gCons (gName i) (gCons (gName j) (gCons (gName k) (gCons (gName m) gNil))))) (d4 f g h l) (fun x ρ => (((ρ.set i (.val (f x.1))).set j (.val (g x.2.1))).set k (.val (h x.2.2.1))).set m (.val (l x.2.2.2))) [i, j, k, m] := fun x v ρ σ F H R d Q q => by
  obtain ⟨p, vs, rfl, hs, hd⟩ := dp_tup d
  cases hd with
  | cons h1 t =>
    cases t with
    | cons h2 t =>
      cases t with
      | cons h3 t =>
        cases t with
        | cons h4 t =>
          cases t
          refine ⟨p, _, rfl, sqT_mono R.sub hs, rfl, _, _, rfl, _, _, rfl, _, _, rfl, _, _, rfl, rfl, ?_⟩
          refine q _ ((((R.setV h1).setV h2).setV h3).setV h4) ((((Fr.setN rfl R.sub).trans (Fr.setN rfl R.sub)).trans (Fr.setN rfl R.sub)).trans (Fr.setN rfl R.sub)) ?_
          rw [wipe_set (by simp), wipe_set (by simp), wipe_set (by simp), wipe_set (by simp)]
/-- a tuple of any length taken apart into two: it must have two -/
theorem gv_L2 {f : α → D} {i j : Nat} : GV K (gTup K 2 (gCons (gName i) (gCons (gName j) gNil))) (fun x : α × α => dT f [x.1, x.2]) (fun x ρ => (ρ.set i (.val (f x.1))).set j (.val (f x.2))) [i, j] := fun x v ρ σ F H R d Q q => gv_2 (f := f) (g := f) x v ρ σ F H R d Q q
end

/-! ### a comprehension -/
def wipeR (ρ : Rho) : List Nat → Rho
  | [] => ρ
  | v :: vs => (wipeR ρ vs).set v .un
theorem Rel.wipe {K : PySem.W.Frag} {ρ : Rho} {σ : L2.St} {F H : Hp} (R : Rel K ρ σ F H) : ∀ vs : List Nat, Rel K (wipeR ρ vs) (L2.wipe σ vs) F H
  | [] => R
  | v :: vs => (R.wipe vs).set (s := .un) (v := none) rfl trivial
theorem owns_wipe {ρ : Rho} {σ : L2.St} {b : Addr} : ∀ {vs : List Nat}, owns (wipeR ρ vs) (L2.wipe σ vs) b → owns ρ σ b
  | [], h => h
  | v :: vs, h => owns_wipe (vs := vs) (owns_set (s := .un) (v := none) rfl h)
section
variable {α β γ : Type}
def compG (mt : γ → Option Bool) (me : γ → Option β) : List γ → Option (List β)
  | [] => some []
  | x :: xs => (mt x).bind fun b => if b then (me x).bind fun y => (compG mt me xs).bind fun ys => some (y :: ys) else compG mt me xs
def compM (its : List γ) (mt : γ → Option Bool) (me : γ → Option β) : Option (List β) := if its.length ≤ sizeLine then compG mt me its else none
def yesM {γ : Type} : γ → Option Bool := fun _ => some true
variable {X : Cx} {ρ : Rho} {elt tg iter e : Expr} {ifs : List Expr} {scope : Scope} {own : List (Str × Nat)} {pos : Pos}
/-- a test of a comprehension -/
abbrev PTs0 (X : Cx) (ρ : Rho) (ifs : List Expr) (m : Option Bool) : Prop :=
  ∀ a, m = some a → ∀ (σ : L2.St) (F H : Hp), Rel X.K ρ σ F H → ∀ Q : Bool → Hp → Prop, (∀ F' H', Ext F H F' H' → Q a H') → ∀ (pins : List (Addr × Obj)) (s : Shared), Inv X pins σ H s →
    wpAny (model X.prog X.w) X.A (forIn ifs true fun c r => if r = true then do let ok ← isTrue c X.env (eval c X.env); pure (ForInStep.yield ok) else pure (ForInStep.yield r)) (TP X pins σ Q) X.xe s
structure PTs' (X : Cx) (ρ : Rho) (ifs : List Expr) (m : Option Bool) : Prop where
  run : PTs0 X ρ ifs m
instance (X : Cx) (ρ : Rho) (ifs : List Expr) (m : Option Bool) : CoeFun (PTs' X ρ ifs m) (fun _ => PTs0 X ρ ifs m) := ⟨fun h => h.run⟩
theorem pts_no : PTs' X ρ [] (some true) := .mk fun a e σ F H R Q q pins s I => by
  cases e
  exact pts_nil.run pins s σ H Q I (q F H (Ext.refl R.sub))
theorem pts_c {c : Expr} {m : Option Bool} (h : PTe X ρ c m) : PTs' X ρ [c] m := .mk fun a e σ F H R Q q pins s I =>
  (pts_one pT).run pins s σ H Q I (h a e σ F H R Q q)
abbrev blkX (X : Cx) (scope : Scope) (s : Shared) (H : Hp) (C : Addr) (cl : List (Str × Addr)) (fp : List Addr) : Cx := X.blk s H scope (compEnvC scope cl C X.env) fp
/-- the reading of the loop of a comprehension: D is the new list, acc stands in it -/
theorem comp_loop {X : Cx} {J : It} {G : Hp → Hp → Prop} {its : List γ} {fx : γ → D} {f : β → D} {g : TG} {tt : TT} {te : TE} {vs : List Nat} {u : γ → Rho → Rho} {mt : γ → Option Bool} {me : γ → Option β} {ρ : Rho} {σ : L2.St} {F1 H1 : Hp} {A : Addr} {ys : List β} {Qd : Hp → Prop}
    (hJ : Yields X.K J G (its.map fx)) (hG : ∀ F H, Ext F1 H1 F H → G F H) (R : Rel X.K ρ σ F1 H1) (gv : GV X.K g fx u vs) (hm : compG mt me its = some ys) (hz : its.length ≤ sizeLine) (hA : H1 A = none)
    (ht : ∀ x a, mt x = some a → ∀ (σ : L2.St) (F H : Hp), Rel X.K (u x (wipeR ρ vs)) σ F H → ∀ Q : Bool → Hp → Prop, (∀ F' H', Ext F H F' H' → Q a H') → tt σ H Q)
    (he : ∀ x a, me x = some a → ∀ (σ : L2.St) (F H : Hp), Rel X.K (u x (wipeR ρ vs)) σ F H → ∀ Q : VK, (∀ v F' H', Ext F H F' H' → Dp X.K F' v (f a) → Q v H') → te σ H Q)
    (hd : ∀ ws F H, Ext F1 H1 F H → H A = some (.lst ws) → F A = none → DpAll X.K F ws (ys.map f) → Qd H) :
    ∃ W : Nat → Nat → Hp → Prop, (∃ m, W 0 m (upd H1 A (.lst []))) ∧ ∀ i m H, W i m H →
      (J.stop i H ∧ Qd H) ∨ (J.go i H ∧ ∃ Nx : Hp → Prop, (∀ H', Nx H' → ∃ m', m' < m ∧ W (i + 1) m' H') ∧ ∀ x H', J.yld i H x H' → g x (L2.wipe σ vs) H' fun σ2 H2 => L2.wipe σ2 vs = L2.wipe σ vs ∧ tt σ2 H2 fun b H3 =>
        if b = true then te σ2 H3 fun y H4 => ∃ acc, H4 A = some (.lst acc) ∧ acc.length < sizeLine ∧ Nx (upd H4 A (.lst (acc ++ [y]))) else Nx H3) := by
  -- what stands at turn i: the rest of the items gives the rest of the list
  let P : Nat → Hp → Prop := fun i H => i ≤ its.length ∧ ∃ (F : Hp) (ws : List V) (done left : List β), Ext F1 H1 F H ∧ H A = some (.lst ws) ∧ F A = none ∧ DpAll X.K F ws (done.map f) ∧ compG mt me (its.drop i) = some left ∧ done ++ left = ys ∧ done.length ≤ i
  have aF : F1 A = none := R.sub.free hA
  have len : (its.map fx).length = its.length := List.length_map _
  refine ⟨fun i m H => m = its.length - i ∧ P i H, ⟨its.length, rfl, Nat.zero_le _, F1, [], [], ys, Ext.newOwn R.sub hA _, upd_same, aF, .nil, hm, rfl, Nat.le_refl _⟩, ?_⟩
  rintro i m H ⟨rfl, hi, F, ws, done, left, x1, hws, hFA, hdone, hleft, happ, hdl⟩
  have gg := hG F H x1
  by_cases hlt : i < its.length
  · refine .inr ⟨hJ.go i F H (by rw [len]; exact hlt) gg, P (i + 1), fun H' p' => ⟨its.length - (i + 1), by omega, rfl, p'⟩, fun v H' y => ?_⟩
    have hit : its[i]? = some its[i] := List.getElem?_eq_getElem hlt
    obtain ⟨F', x2, d2⟩ := hJ.yld i F H v H' (fx its[i]) gg x1.fh (by rw [List.getElem?_map, hit]; rfl) y
    have R' : Rel X.K (wipeR ρ vs) (L2.wipe σ vs) F' H' := (R.ext (x1.trans x2)).wipe vs
    refine gv its[i] v _ _ F' H' R' d2 _ fun σ2 R2 f2 hw => ⟨hw.trans wipe_wipe, ?_⟩
    rw [List.drop_eq_getElem_cons hlt] at hleft
    unfold compG at hleft
    obtain ⟨b, eb, hleft⟩ := bind_some hleft
    refine ht its[i] b eb σ2 F' H' R2 _ fun F3 H3 x3 => ?_
    have hA2 : H' A = some (.lst ws) := x2.hh _ _ hws
    have hA3 : H3 A = some (.lst ws) := x3.hh _ _ hA2
    have fA' : F' A = none := x2.fnone (by rw [hws]; simp) hFA
    have fA3 : F3 A = none := x3.fnone (by rw [hA2]; simp) fA'
    cases b with
    | false =>
      rw [if_neg Bool.false_ne_true]
      rw [if_neg Bool.false_ne_true] at hleft
      exact ⟨hlt, F3, ws, done, left, x1.trans (x2.trans x3), hA3, fA3, DpAll.mono (x2.trans x3).ff hdone, hleft, happ, by omega⟩
    | true =>
      rw [if_pos rfl]
      rw [if_pos rfl] at hleft
      obtain ⟨z, ez, hleft⟩ := bind_some hleft
      obtain ⟨zs, ezs, hleft⟩ := bind_some hleft
      cases hleft
      refine he its[i] z ez σ2 F3 H3 (R2.ext x3) _ fun w F4 H4 x4 d4 => ?_
      have hA4 : H4 A = some (.lst ws) := x4.hh _ _ hA3
      have fA4 : F4 A = none := x4.fnone (by rw [hA3]; simp) fA3
      have hwl : ws.length = done.length := by rw [DpAll.length hdone, List.length_map]
      refine ⟨ws, hA4, by omega, hlt, F4, ws ++ [w], done ++ [z], zs, ?_, upd_same, fA4, ?_, ezs, by rw [List.append_assoc]; exact happ, by rw [List.length_append, List.length_singleton]; omega⟩
      · have x5 := x1.trans (x2.trans (x3.trans x4))
        refine ⟨x5.ff, fun b o q => ?_, fun b o q => ?_, x5.nw⟩
        · have hb : b ≠ A := fun e => by subst e; rw [hA] at q; cases q
          rw [upd_ne hb]
          exact x5.hh b o q
        · have hb : b ≠ A := fun e => by subst e; rw [fA4] at q; cases q
          rw [upd_ne hb]
          exact x5.fh b o q
      · rw [List.map_append]
        exact DpAll.append (DpAll.mono (x2.trans (x3.trans x4)).ff hdone) (.cons d4 .nil)
  · have e : i = its.length := by omega
    subst e
    rw [List.drop_length] at hleft
    cases hleft
    rw [List.append_nil] at happ
    subst happ
    exact .inl ⟨by rw [← len]; exact hJ.stop F H gg, hd ws F H x1 hws hFA hdone⟩
def tBlkE (X : Cx) (scope : Scope) (elt : Expr) : TE := fun σ H Q => ∀ s H0 C cl fp, tE (blkX X scope s H0 C cl fp) elt σ H Q
def tBlkT (X : Cx) (scope : Scope) (ifs : List Expr) : TT := fun σ H Q => ∀ s H0 C cl fp pins (s' : Shared), Inv (blkX X scope s H0 C cl fp) pins σ H s' → wpAny (model X.prog X.w) X.A (forIn ifs true fun c r => if r = true then do let ok ← isTrue c (blkX X scope s H0 C cl fp).env (eval c (blkX X scope s H0 C cl fp).env); pure (ForInStep.yield ok) else pure (ForInStep.yield r)) (TP (blkX X scope s H0 C cl fp) pins σ Q) (blkX X scope s H0 C cl fp).xe s'
theorem pBlkE (X : Cx) (scope : Scope) (elt : Expr) (s : Shared) (H : Hp) (C : Addr) (cl : List (Str × Addr)) (fp : List Addr) : PE (blkX X scope s H C cl fp) elt (tBlkE X scope elt) := ⟨fun pins s' σ H' Q I h => h s H C cl fp pins s' I⟩
theorem pBlkT (X : Cx) (scope : Scope) (ifs : List Expr) (s : Shared) (H : Hp) (C : Addr) (cl : List (Str × Addr)) (fp : List Addr) : PTs (blkX X scope s H C cl fp) ifs (tBlkT X scope ifs) := ⟨fun pins s' σ H' Q I h => h s H C cl fp pins s' I⟩
theorem pn_comp {fx : γ → D} {f : β → D} {g : TG} {u : γ → Rho → Rho} {mi : Option (List γ)} {mt : γ → Option Bool} {me : γ → Option β} (hc : X.calm = true) (hN : X.N.Nodup) (hi : PIt X ρ tg iter mi fx false) (ok : BlkOk X.N X.env.scope scope own)
    (hg : ∀ s H C cl fp, PG (blkX X scope s H C cl fp) tg g) (gv : GV X.K g fx u (own.map (·.2))) (ht : ∀ x s H C cl fp, PTs' (blkX X scope s H C cl fp) (u x (wipeR ρ (own.map (·.2)))) ifs (mt x))
    (he : ∀ x s H C cl fp, PV (blkX X scope s H C cl fp) (u x (wipeR ρ (own.map (·.2)))) elt (me x) (aD f)) (hs : ∀ x, foldedSetIterable iter X.env x = pure x := by intro _; rfl) :
    PN X ρ (.ListComp elt [⟨tg, iter, ifs, 0⟩] scope pos) (mi.bind fun its => compM its mt me) (fun ys => ys.map f) := .mk fun ys eys σ F H R Q q => by
  obtain ⟨its, eits, eys⟩ := bind_some eys
  have hz : its.length ≤ sizeLine := by
    unfold compM at eys
    by_cases h : its.length ≤ sizeLine
    · exact h
    · rw [if_neg h] at eys; cases eys
  have hm : compG mt me its = some ys := by
    unfold compM at eys
    rw [if_pos hz] at eys
    exact eys
  refine PE.to (pe_lc hc hN (pI X) ok hg (pBlkT X scope ifs) (pBlkE X scope elt) hs) ?_
  refine hi its eits σ F H R _ fun J F1 H1 x1 y => fun A hA => ?_
  refine comp_loop y (fun F' H' z => z) (R.ext x1) gv hm hz hA (fun x a ex σ F H R Q q => fun s H0 C cl fp pins s' I => ht x s H0 C cl fp a ex σ F H R Q q pins s' I) (fun x a ex σ F H R Q q => fun s H0 C cl fp => he x s H0 C cl fp a ex σ F H R Q q) fun ws F' H' x' hw hf hdd => ?_
  exact q A ws F' H' (x1.trans x') (x1.hh.free hA) hw hf hdd
end

/-! ### calls of the program's own defs -/
section
variable {α β γ : Type}
/-- nothing changes; the value is data -/
def spP (K : PySem.W.Frag) (n : Nat) (enc : α → List D) (m : α → Option β) (f : β → D) : Sp := fun vs H Q _ => ∃ (F : Hp) (a : α) (b : β), vs.length = n ∧ Same F H ∧ DpAll K F vs (enc a) ∧ m a = some b ∧ ∀ v F' H', Ext F H F' H' → Dp K F' v (f b) → Q v H'
/-- nothing changes; the value is a new list -/
def spN (K : PySem.W.Frag) (n : Nat) (enc : α → List D) (m : α → Option β) (f : β → List D) : Sp := fun vs H Q _ => ∃ (F : Hp) (a : α) (b : β), vs.length = n ∧ Same F H ∧ DpAll K F vs (enc a) ∧ m a = some b ∧
  ∀ p ws F' H', Ext F H F' H' → H p = none → H' p = some (.lst ws) → F' p = none → DpAll K F' ws (f b) → Q (.ref p) H'
variable {X : Cx} {ρ : Rho} {e : Expr} {es : List Expr} {x : Str} {p pos : Pos} {k : Nat} {f : Addr} {fd : FuncData} {ps : List Str}
theorem pv_callF {n : Nat} {enc : α → List D} {m : α → Option β} {fr : β → D} {ma : Option α} {fs : α → List AD} (G : FnOk X.prog X.w X.K X.mg X.base CX0 k f fd ps (spP X.K n enc m fr)) (hr : Room k X.A) (hg : Gl X x) (hm : X.mg x = some (.ref f)) (hk : PySem.W.keepIn X.K (.ref f) = true) (hb : Binds X.K fd ps [])
    (ha : PAr X ρ (e :: es) ma fs) (hd : ∀ a, fs a = (enc a).map AD.d) (hn : ∀ a, (enc a).length = n) (hdb : (x == ("__debug__" : Str)) = false := by decide) (he : starEach (e :: es) X.env = (false, eval e X.env) :: starEach es X.env := by rfl) (hpl : (backTo pos (starEach es X.env)).any (·.1) = false := by rfl) :
    PV X ρ (.Call (.Name x p) (e :: es) [] pos) (ma.bind m) (aD fr) := .mk fun z ez σ F H R Q q => by
  obtain ⟨y, ey, ez⟩ := bind_some ez
  refine PE.to (pe_call G hr hg hm hk hb .nil pass0 pA hdb he hpl) (ha y ey σ F H R _ fun vs F1 H1 x1 d1 => ?_)
  rw [hd] at d1
  have d2 := AdAll.dps d1
  refine ⟨F1, y, z, ?_, x1.fh, by rw [List.append_nil]; exact d2, ez, fun v F' H' x2 d3 => q v F' H' (x1.trans x2) d3⟩
  rw [List.append_nil, DpAll.length d2, hn]
theorem pn_callF {n : Nat} {enc : α → List D} {m : α → Option β} {fr : β → List D} {ma : Option α} {fs : α → List AD} (G : FnOk X.prog X.w X.K X.mg X.base CX0 k f fd ps (spN X.K n enc m fr)) (hr : Room k X.A) (hg : Gl X x) (hm : X.mg x = some (.ref f)) (hk : PySem.W.keepIn X.K (.ref f) = true) (hb : Binds X.K fd ps [])
    (ha : PAr X ρ (e :: es) ma fs) (hd : ∀ a, fs a = (enc a).map AD.d) (hn : ∀ a, (enc a).length = n) (hdb : (x == ("__debug__" : Str)) = false := by decide) (he : starEach (e :: es) X.env = (false, eval e X.env) :: starEach es X.env := by rfl) (hpl : (backTo pos (starEach es X.env)).any (·.1) = false := by rfl) :
    PN X ρ (.Call (.Name x p) (e :: es) [] pos) (ma.bind m) fr := .mk fun z ez σ F H R Q q => by
  obtain ⟨y, ey, ez⟩ := bind_some ez
  refine PE.to (pe_call G hr hg hm hk hb .nil pass0 pA hdb he hpl) (ha y ey σ F H R _ fun vs F1 H1 x1 d1 => ?_)
  rw [hd] at d1
  have d2 := AdAll.dps d1
  refine ⟨F1, y, z, ?_, x1.fh, by rw [List.append_nil]; exact d2, ez, fun p' ws F' H' x2 hn hp hf d3 => q p' ws F' H' (x1.trans x2) (x1.hh.free hn) hp hf d3⟩
  rw [List.append_nil, DpAll.length d2, hn]
/-- data that hold no list and no tuple -/
def FlatD (f : α → D) : Prop := ∀ a K F v, Dp K F v (f a) → ∀ F', Dp K F' v (f a)
theorem flat_I : FlatD dI := fun a K F v h F' => by cases h; exact .int _
theorem flat_B : FlatD dB := fun a K F v h F' => by cases h; exact .bl _
theorem flat_S : FlatD dS := fun a K F v h F' => by cases h; exact .str _
theorem flat_U : FlatD dU := fun a K F v h F' => by cases h; exact .non
theorem flat_O {f : α → D} (h : FlatD f) : FlatD (dO f) := fun a K F v q F' => by
  cases a with
  | none => exact (show Dp K F' v .none from by cases (show Dp K F v .none from q); exact .non)
  | some a => exact h a K F v q F'
theorem AdAll.dats {K : PySem.W.Frag} {F H : Hp} (s : Same F H) : ∀ {vs : List V} {ks : List AD}, AdAll K F H vs ks → DpAll K H vs (ks.map AD.dat)
  | [], [], _ => .nil
  | _ :: _, _ :: _, h => .cons (h.1.same s) (AdAll.dats s h.2)
  | [], _ :: _, h => h.elim
  | _ :: _, [], h => h.elim
/-- the value is flat: own lists may be handed in, they stay own -/
theorem pv_callS {n : Nat} {enc : α → List D} {m : α → Option β} {fr : β → D} {ma : Option α} {fs : α → List AD} (G : FnOk X.prog X.w X.K X.mg X.base CX0 k f fd ps (spP X.K n enc m fr)) (hfl : FlatD fr) (hr : Room k X.A) (hg : Gl X x) (hm : X.mg x = some (.ref f)) (hk : PySem.W.keepIn X.K (.ref f) = true) (hb : Binds X.K fd ps [])
    (ha : PAr X ρ (e :: es) ma fs) (hd : ∀ a, (fs a).map AD.dat = enc a) (hn : ∀ a, (enc a).length = n) (hdb : (x == ("__debug__" : Str)) = false := by decide) (he : starEach (e :: es) X.env = (false, eval e X.env) :: starEach es X.env := by rfl) (hpl : (backTo pos (starEach es X.env)).any (·.1) = false := by rfl) :
    PV X ρ (.Call (.Name x p) (e :: es) [] pos) (ma.bind m) (aD fr) := .mk fun z ez σ F H R Q q => by
  obtain ⟨y, ey, ez⟩ := bind_some ez
  refine PE.to (pe_call G hr hg hm hk hb .nil pass0 pA hdb he hpl) (ha y ey σ F H R _ fun vs F1 H1 x1 d1 => ?_)
  have d2 := AdAll.dats x1.fh d1
  rw [hd] at d2
  refine ⟨H1, y, z, ?_, Same.refl _, by rw [List.append_nil]; exact d2, ez, fun v F' H' x2 d3 => q v F1 H' (x1.trans ⟨Same.refl _, x2.hh, x1.fh.trans x2.hh, fun _ _ e => .inl e⟩) (hfl _ _ _ _ d3 _)⟩
  rw [List.append_nil, DpAll.length d2, hn]
end

/-! ### statements -/
section
variable {X : Cx} {α β γ δ S S' R R' : Type} {ρ : Rho} {a b c e iter tg : Expr} {st : Stmt} {rest body els : List Stmt} {pos pos' : Pos} {E : S → Rho} {fr : R → Fin} {i : Nat} {x : Str}
theorem Fx.pre {ρ1 : Rho} {σ σ1 : L2.St} {F H F1 H1 F2 H2 : Hp} (f : Fr ρ σ F H ρ1 σ1 F1 H1) (g : Fx ρ1 σ1 F1 H1 F2 H2) : Fx ρ σ F H F2 H2 := by
  refine ⟨g.sub, f.ff.trans g.ff, fun c o e n => ?_, fun c o e => ?_⟩
  · have e1 := f.hh c o e n
    refine g.hh c o e1 fun w => ?_
    rcases f.ow c w with z | z
    · exact n z
    · rw [e] at z; cases z
  · rcases g.nw c o e with z | z | z
    · exact f.nw c o z
    · exact .inr (.inl (f.there c z))
    · rcases f.ow c z with y | y
      · exact .inr (.inr y)
      · exact .inr (.inl y)
theorem Fx.of {ρ1 : Rho} {σ σ1 : L2.St} {F H F1 H1 : Hp} (f : Fr ρ σ F H ρ1 σ1 F1 H1) (s : Same F1 H1) : Fx ρ σ F H F1 H1 := ⟨s, f.ff, f.hh, f.nw⟩
theorem FinOk.pre {ρ1 : Rho} {σ1 : L2.St} {F1 H1 : Hp} {σ : L2.St} {F H : Hp} {De : Ends} {r : Fin} (f : Fr ρ σ F H ρ1 σ1 F1 H1) (h : FinOk X ρ σ F H De r) : FinOk X ρ1 σ1 F1 H1 De r := by
  cases r with
  | rt d bs => exact fun v F' H' f' l d' => h v F' H' (Fx.pre f f') l d'
  | rn ds bs => exact fun p vs F' H' f' l hn hp hf ho d' => h p vs F' H' (Fx.pre f f') l (by
      rcases hn with z | z
      · exact .inl (f.there p z)
      · rcases f.ow p z with w | w
        · exact .inr w
        · exact .inl w) hp hf ho d'
  | bk ρ' => exact fun σ' F' H' R' f' => h σ' F' H' R' (f.trans f')
theorem SOk.pre {ρ1 : Rho} {σ1 : L2.St} {F1 H1 : Hp} {σ : L2.St} {F H : Hp} {De : Ends} {r : Sum S R} (f : Fr ρ σ F H ρ1 σ1 F1 H1) (h : SOk X ρ σ F H De E fr r) : SOk X ρ1 σ1 F1 H1 De E fr r := by
  cases r with
  | inl s => exact fun σ' F' H' R' f' => h σ' F' H' R' (f.trans f')
  | inr r => exact FinOk.pre f h
theorem FinOk.nx {σ : L2.St} {F H : Hp} {De : Ends} {t : L2.St → Hp → Prop} {r : Fin} (h : FinOk X ρ σ F H De r) : FinOk X ρ σ F H { De with nx := t } r := by
  cases r <;> exact h
theorem fr_refl {σ : L2.St} {F H : Hp} (s : Same F H) : Fr ρ σ F H ρ σ F H := Fr.of_ext (Ext.refl s)
theorem sv_nil {s : S} (h : E s = ρ) : SV X ρ [] (some (.inl s)) E fr := .mk fun r e σ F H Rl De q => by
  cases e
  exact PSs.to pss_nil (q σ F H (by rw [h]; exact Rl) (by rw [h]; exact fr_refl Rl.sub))
theorem sv_cons {E1 : S → Rho} {E : S' → Rho} {m1 : Option (Sum S R)} {m2 : S → Option (Sum S' R)} (h1 : S1 X ρ st m1 E1 fr) (h2 : ∀ s, SV X (E1 s) rest (m2 s) E fr) : SV X ρ (st :: rest) (sq m1 m2) E fr := .mk fun r e σ F H Rl De q => by
  refine PSs.to (pss_cons pS pSs) ?_
  cases hm : m1 with
  | none => rw [hm] at e; cases e
  | some y =>
    rw [hm] at e
    cases y with
    | inl s => exact h1 _ hm σ F H Rl _ fun σ' F' H' R' f' => h2 s r e σ' F' H' R' De (q.pre f')
    | inr y =>
      cases e
      exact h1 _ hm σ F H Rl _ (FinOk.nx q)
theorem sv_one {m : Option (Sum S R)} (h : S1 X ρ st m E fr) : SV X ρ [st] m E fr := .mk fun r e σ F H Rl De q => PSs.to (pss_one pS) (h r e σ F H Rl De q)
/-- what is known of a slot is forgotten -/
theorem sv_forget {m : Option (Sum S R)} (i : Nat) (h : SV X (ρ.set i .un) rest m E fr) : SV X ρ rest m E fr := .mk fun r e σ F H Rl De q =>
  h r e σ F H (Rl.forget i) De (q.pre (Fr.forget i))
/-- an own list is frozen -/
theorem sv_freeze {m : Option (Sum S R)} {ds : List D} (i : Nat) (hi : ρ[i]? = some (.own ds)) (h : SV X (ρ.set i (.val (.list ds))) rest m E fr) : SV X ρ rest m E fr := .mk fun r e σ F H Rl De q => by
  obtain ⟨F', R', f'⟩ := Rl.freeze hi
  exact h r e σ F' H R' De (q.pre f')
/-- the slots read in another way -/
theorem sv_conv {ρ' : Rho} {m : Option (Sum S R)} (h : SV X ρ' rest m E fr) (e : ρ' = ρ) : SV X ρ rest m E fr := by subst e; exact h

theorem Fr.of_extO {σ : L2.St} {F H F1 H1 : Hp} {p : Addr} {ds : List D} (x : Ext F H F1 H1) (hn : H p = none) (hl : σ.length = ρ.length) : Fr ρ σ F H (ρ.set i (.own ds)) (σ.set i (some (.ref p))) F1 H1 :=
  ⟨x.ff, fun b o e _ => x.hh b o e, fun b o e => (x.nw b o e).elim .inl fun z => .inr (.inl z), fun b hb => (owns_setO hb hl).elim .inl fun z => .inr (by rw [z]; exact hn), fun _ e => x.hh.free e⟩
/-! name = e -/
theorem s1_set {m : Option α} {f : α → D} (h : PV X ρ e m (aD f)) (hN : X.N.Nodup) (hi : X.N[i]? = some x) (hx : Loc X.env.scope x) (hs : swapsWith e (some (.Name x pos')) pos.line X.env = pure false := by rfl) (hf : X.fn x = true ∨ X.env.scope.names.lookup x = some .local := by first | exact .inl rfl | exact .inr rfl | assumption) :
    S1 X ρ (.Assign [.Name x pos'] e pos) (m.bind fun z => some (.inl z)) (fun z => ρ.set i (.val (f z))) fr := .mk fun r er σ F H Rl De q => by
  obtain ⟨z, ez, er⟩ := bind_some er
  cases er
  exact PS.to (ps_set hN hi hx pE hs hf) (h z ez σ F H Rl _ fun v F1 H1 x1 d1 => q _ F1 H1 ((Rl.ext x1).setV d1) ((Fr.of_ext x1).trans (Fr.setN rfl x1.fh)))
theorem s1_setN {m : Option α} {f : α → List D} (h : PN X ρ e m f) (hl : i < ρ.length) (hN : X.N.Nodup) (hi : X.N[i]? = some x) (hx : Loc X.env.scope x) (hs : swapsWith e (some (.Name x pos')) pos.line X.env = pure false := by rfl) (hf : X.fn x = true ∨ X.env.scope.names.lookup x = some .local := by first | exact .inl rfl | exact .inr rfl | assumption) :
    S1 X ρ (.Assign [.Name x pos'] e pos) (m.bind fun z => some (.inl z)) (fun z => ρ.set i (.own (f z))) fr := .mk fun r er σ F H Rl De q => by
  obtain ⟨z, ez, er⟩ := bind_some er
  cases er
  refine PS.to (ps_set hN hi hx pE hs hf) (h z ez σ F H Rl _ fun p vs F1 H1 x1 hn hp hf d1 => ?_)
  have no : ¬ owns ρ σ p := fun ⟨j, hj⟩ => by
    obtain ⟨ws, hw, _⟩ := Rl.own_lst ⟨j, hj⟩
    rw [hn] at hw; cases hw
  exact q _ F1 H1 ((Rl.ext x1).setO hp hf d1 no hl) (Fr.of_extO x1 hn Rl.len)

/-- the slot of a variable that holds an own list -/
theorem own_slot {σ : L2.St} {F H : Hp} {ds : List D} (Rl : Rel X.K ρ σ F H) (hi : ρ[i]? = some (.own ds)) : ∃ p vs, σ[i]? = some (some (.ref p)) ∧ H p = some (.lst vs) ∧ F p = none ∧ DpAll X.K F vs ds := Rl.at_ i _ hi
/-! name = [.. for ..] -/
theorem comp_read {γ β : Type} {fx : γ → D} {f : β → D} {g : TG} {u : γ → Rho → Rho} {mi : Option (List γ)} {mt : γ → Option Bool} {me : γ → Option β} {ys : List β} {elt : Expr} {ifs : List Expr} {scope : Scope} {own : List (Str × Nat)} (hi : PIt X ρ tg iter mi fx false)
    (gv : GV X.K g fx u (own.map (·.2))) (ht : ∀ x s H C cl fp, PTs' (blkX X scope s H C cl fp) (u x (wipeR ρ (own.map (·.2)))) ifs (mt x)) (he : ∀ x s H C cl fp, PV (blkX X scope s H C cl fp) (u x (wipeR ρ (own.map (·.2)))) elt (me x) (aD f))
    (eys : (mi.bind fun its => compM its mt me) = some ys) {σ : L2.St} {F H : Hp} (R : Rel X.K ρ σ F H) {Q : VK} (q : ∀ p vs F' H', Ext F H F' H' → H p = none → H' p = some (.lst vs) → F' p = none → DpAll X.K F' vs (ys.map f) → Q (.ref p) H') :
    tLc (tI X tg iter) g (tBlkT X scope ifs) (tBlkE X scope elt) (own.map (·.2)) σ H Q := by
  obtain ⟨its, eits, eys⟩ := bind_some eys
  have hz : its.length ≤ sizeLine := by
    unfold compM at eys
    by_cases h : its.length ≤ sizeLine
    · exact h
    · rw [if_neg h] at eys; cases eys
  have hm : compG mt me its = some ys := by
    unfold compM at eys
    rw [if_pos hz] at eys
    exact eys
  refine hi its eits σ F H R _ fun J F1 H1 x1 y => fun A hA => ?_
  refine comp_loop y (fun F' H' z => z) (R.ext x1) gv hm hz hA (fun x a ex σ F H R Q q => fun s H0 C cl fp pins s' I => ht x s H0 C cl fp a ex σ F H R Q q pins s' I) (fun x a ex σ F H R Q q => fun s H0 C cl fp => he x s H0 C cl fp a ex σ F H R Q q) fun ws F' H' x' hw hf hdd => ?_
  exact q A ws F' H' (x1.trans x') (x1.hh.free hA) hw hf hdd
section
variable {fx : γ → D} {f : β → D} {g : TG} {u : γ → Rho → Rho} {mi : Option (List γ)} {mt : γ → Option Bool} {me : γ → Option β} {elt : Expr} {ifs : List Expr} {scope : Scope} {own : List (Str × Nat)}
theorem s1_lc {spos : Pos} (hc : X.calm = true) (hN : X.N.Nodup) (hy : X.N[i]? = some x) (hyl : X.env.scope.names.lookup x = some .local)
    (hsw : swapsWith (.ListComp elt [⟨tg, iter, ifs, 0⟩] scope pos) (some (.Name x pos')) pos.line X.env = pure true) (hi : PIt X ρ tg iter mi fx false) (ok : BlkOk X.N X.env.scope scope own)
    (hg : ∀ s H C cl fp, PG (blkX X scope s H C cl fp) tg g) (gv : GV X.K g fx u (own.map (·.2))) (ht : ∀ x s H C cl fp, PTs' (blkX X scope s H C cl fp) (u x (wipeR ρ (own.map (·.2)))) ifs (mt x))
    (he : ∀ x s H C cl fp, PV (blkX X scope s H C cl fp) (u x (wipeR ρ (own.map (·.2)))) elt (me x) (aD f)) (hsl : pos.line = spos.line := by rfl) (hs : ∀ x, foldedSetIterable iter X.env x = pure x := by intro _; rfl) :
    S1 X ρ (.Assign [.Name x pos'] (.ListComp elt [⟨tg, iter, ifs, 0⟩] scope pos) spos) ((mi.bind fun its => compM its mt me).bind fun z => some (.inl z)) (fun z => ρ.set i (.val (dL f z))) fr := .mk fun r er σ F H Rl De q => by
  obtain ⟨z, ez, er⟩ := bind_some er
  cases er
  refine PS.to (ps_setLc hc hN hy hyl (by rw [← hsl]; exact hsw) (pI X) ok hg (pBlkT X scope ifs) (pBlkE X scope elt) hs) ?_
  refine comp_read hi gv ht he ez Rl fun p vs F' H' x' hn hp hf hd => ?_
  have x2 := x'.froze hp hn hf
  exact q _ _ H' ((Rl.ext x2).setV (Dp.lst (SqL.of upd_same) (DpAll.mono (same_upd hf _) hd))) ((Fr.of_ext x2).trans (Fr.setN rfl x2.fh))
theorem s1_lcN {spos : Pos} (hc : X.calm = true) (hN : X.N.Nodup) (hy : X.N[i]? = some x) (hyl : X.env.scope.names.lookup x = some .local) (hl : i < ρ.length)
    (hsw : swapsWith (.ListComp elt [⟨tg, iter, ifs, 0⟩] scope pos) (some (.Name x pos')) pos.line X.env = pure true) (hi : PIt X ρ tg iter mi fx false) (ok : BlkOk X.N X.env.scope scope own)
    (hg : ∀ s H C cl fp, PG (blkX X scope s H C cl fp) tg g) (gv : GV X.K g fx u (own.map (·.2))) (ht : ∀ x s H C cl fp, PTs' (blkX X scope s H C cl fp) (u x (wipeR ρ (own.map (·.2)))) ifs (mt x))
    (he : ∀ x s H C cl fp, PV (blkX X scope s H C cl fp) (u x (wipeR ρ (own.map (·.2)))) elt (me x) (aD f)) (hsl : pos.line = spos.line := by rfl) (hs : ∀ x, foldedSetIterable iter X.env x = pure x := by intro _; rfl) :
    S1 X ρ (.Assign [.Name x pos'] (.ListComp elt [⟨tg, iter, ifs, 0⟩] scope pos) spos) ((mi.bind fun its => compM its mt me).bind fun z => some (.inl z)) (fun z => ρ.set i (.own (z.map f))) fr := .mk fun r er σ F H Rl De q => by
  obtain ⟨z, ez, er⟩ := bind_some er
  cases er
  refine PS.to (ps_setLc hc hN hy hyl (by rw [← hsl]; exact hsw) (pI X) ok hg (pBlkT X scope ifs) (pBlkE X scope elt) hs) ?_
  refine comp_read hi gv ht he ez Rl fun p vs F' H' x' hn hp hf hd => ?_
  have no : ¬ owns ρ σ p := fun ⟨j, hj⟩ => by
    obtain ⟨ws, hw, _⟩ := Rl.own_lst ⟨j, hj⟩
    rw [hn] at hw; cases hw
  exact q _ F' H' ((Rl.ext x').setO hp hf hd no hl) (Fr.of_extO x' hn Rl.len)
end
/-! a, b = e -/
theorem s1_tup {m : Option α} {f : α → D} {g : TG} {u : α → Rho → Rho} {vs : List Nat} (h : PV X ρ e m (aD f)) (hg : PG X tg g) (gv : GV X.K g f u vs) (hs : swapsWithSole [tg] e pos.line X.env = pure false := by rfl) (hw : swappedStores [tg] e X.env = pure none := by rfl) (h1 : (assignEach [tg] X.env).map (·.2) = [assign tg X.env] := by rfl) :
    S1 X ρ (.Assign [tg] e pos) (m.bind fun z => some (.inl z)) (fun z => u z ρ) fr := .mk fun r er σ F H Rl De q => by
  obtain ⟨z, ez, er⟩ := bind_some er
  cases er
  refine PS.to (ps_asg pE hg hs hw h1) (h z ez σ F H Rl _ fun v F1 H1 x1 d1 => ?_)
  exact gv z v ρ σ F1 H1 (Rl.ext x1) d1 _ fun σ' R' f' _ => q σ' F1 H1 R' ((Fr.of_ext x1).trans f')
/-- a, b = e1, e2, both sides written -/
theorem s1_par {i j : Nat} {x y : Str} {ma : Option α} {mb : Option β} {f : α → D} {g : β → D} {px py pt : Pos} {kt k2 pt2} (ha : PV X ρ a ma (aD f)) (hb : PV X ρ b mb (aD g)) (hc : X.calm = true) (hN : X.N.Nodup) (hi : X.N[i]? = some x) (hj : X.N[j]? = some y) (hij : i ≠ j)
    (hx : X.env.scope.names.lookup x = some .local) (hy : X.env.scope.names.lookup y = some .local) (hs : starEach [a, b] X.env = (false, eval a X.env) :: starEach [b] X.env := by rfl) (hs2 : starEach [b] X.env = (false, eval b X.env) :: starEach [] X.env := by rfl)
    (hpar : ∀ {ta : TA}, PA X [a, b] ta → PS X (.Assign [.Tuple [.Name x px, .Name y py] kt pt] (.Tuple [a, b] k2 pt2) pos) (tPar i j ta)) :
    S1 X ρ (.Assign [.Tuple [.Name x px, .Name y py] kt pt] (.Tuple [a, b] k2 pt2) pos) ((ma.bind fun z => mb.bind fun w => some (z, w)).bind fun z => some (.inl z)) (fun z => (ρ.set i (.val (f z.1))).set j (.val (g z.2))) fr := .mk fun r er σ F H Rl De q => by
  obtain ⟨zw, ezw, er⟩ := bind_some er
  obtain ⟨z, ez, eq⟩ := bind_some ezw
  obtain ⟨w, ew, eq⟩ := bind_some eq
  clear ezw
  cases eq
  cases er
  refine PS.to (hpar (pa_cons pE (pa_cons pE pa_nil hs2) hs)) (ha z ez σ F H Rl _ fun v F1 H1 x1 d1 => hb w ew σ F1 H1 (Rl.ext x1) _ fun v2 F2 H2 x2 d2 => ?_)
  refine ⟨v, v2, rfl, ?_⟩
  have x3 := x1.trans x2
  exact q _ F2 H2 (((Rl.ext x3).setV (Dp.mono x2.ff d1)).setV d2) ((Fr.of_ext x3).trans ((Fr.setN rfl x3.fh).trans (Fr.setN rfl x3.fh)))
/-! name op= e -/
theorem s1_aug {op : Operator} {ip : Int → Int → Int} {m : Option Int} {z0 : Int} (hip : PIp X op (ipI ip)) (h : PV X ρ e m (aD dI)) (hρ : ρ[i]? = some (.val (dI z0))) (hN : X.N.Nodup) (hi : X.N[i]? = some x) (hx : Loc X.env.scope x) (hf : X.fn x = true ∨ X.env.scope.names.lookup x = some .local := by first | exact .inl rfl | exact .inr rfl | assumption) :
    S1 X ρ (.AugAssign (.Name x pos') op e pos) ((m.bind fun z => some (ip z0 z)).bind fun z => some (.inl z)) (fun z => ρ.set i (.val (dI z))) fr := .mk fun r er σ F H Rl De q => by
  obtain ⟨zz, ezz, er⟩ := bind_some er
  obtain ⟨z, ez, eq⟩ := bind_some ezz
  clear ezz
  cases eq
  cases er
  obtain ⟨v, e1, d0⟩ := Rl.at_ i _ hρ
  refine PS.to (ps_aug hN hi hx pE hip hf) ⟨v, e1, h z ez σ F H Rl _ fun v2 F1 H1 x1 d1 => ⟨z0, z, dp_int d0, dp_int d1, ?_⟩⟩
  exact q _ F1 H1 ((Rl.ext x1).setV (.int _)) ((Fr.of_ext x1).trans (Fr.setN rfl x1.fh))
/-! xs[k] = e, xs[k] op= e: the list is the slot's own -/
def setAt (xs : List α) (k : Int) (y : α) : Option (List α) := (ixN xs.length k).bind fun j => some (xs.set j y)
theorem own_set {σ : L2.St} {F H : Hp} {xs : List α} {f : α → D} {y : α} {k : Int} {v : V} {ys : List α} (Rl : Rel X.K ρ σ F H) (hρ : ρ[i]? = some (.own (xs.map f))) (d : Dp X.K F v (f y)) (hk : setAt xs k y = some ys) :
    ∃ p vs j, σ[i]? = some (some (.ref p)) ∧ H p = some (.lst vs) ∧ ixN vs.length k = some j ∧ Rel X.K (ρ.set i (.own (ys.map f))) σ F (upd H p (.lst (vs.set j v))) ∧ Fr ρ σ F H (ρ.set i (.own (ys.map f))) σ F (upd H p (.lst (vs.set j v))) := by
  obtain ⟨p, vs, e1, hp, hf, hd⟩ := Rl.at_ i _ hρ
  obtain ⟨j, ej, hk⟩ := bind_some hk
  cases hk
  have hl : vs.length = xs.length := by rw [DpAll.length hd, List.length_map]
  have hd' : DpAll X.K F (vs.set j v) ((xs.set j y).map f) := by
    rw [List.map_set]
    exact DpAll.set d j hd
  obtain ⟨R', f'⟩ := Rl.change hρ e1 hd'
  exact ⟨p, vs, j, e1, hp, by rw [hl]; exact ej, R', f'⟩
theorem s1_put {p2 : Pos} {xs : List α} {f : α → D} {m : Option α} {mk : Option Int} (h : PV X ρ e m (aD f)) (hk : PV X ρ c mk (aD dI)) (hρ : ρ[i]? = some (.own (xs.map f))) (hi : X.N[i]? = some x) (hv : Vis X.env.scope x)
    (hd : (x == ("__debug__" : Str)) = false := by decide) (hcd : (x == ("__classdict__" : Str)) = false := by decide) (hs : swapsWithSole [.Subscript (.Name x pos') c p2] e pos.line X.env = pure false := by rfl) (hw : swappedStores [.Subscript (.Name x pos') c p2] e X.env = pure none := by rfl) (hpg : ∀ {to ti : TE}, PE X (.Name x pos') to → PE X c ti → PG X (.Subscript (.Name x pos') c p2) (gSub to ti rSetL) := by intro _ _ h1 h2; exact pg_sub h1 h2 set_list) :
    S1 X ρ (.Assign [.Subscript (.Name x pos') c p2] e pos) ((m.bind fun y => mk.bind fun k => setAt xs k y).bind fun ys => some (.inl ys)) (fun ys => ρ.set i (.own (ys.map f))) fr := .mk fun r er σ F H Rl De q => by
  obtain ⟨ys, eys, er⟩ := bind_some er
  obtain ⟨y, ey, eys⟩ := bind_some eys
  obtain ⟨k, ek, eys⟩ := bind_some eys
  cases er
  refine PS.to (ps_asg pE (hpg (pe_var hi hv hd hcd) pE) hs hw) (h y ey σ F H Rl _ fun v F1 H1 x1 d1 => ?_)
  obtain ⟨p0, vs0, e0, _⟩ := (Rl.ext x1).at_ i _ hρ
  refine ⟨.ref p0, e0, hk k ek σ F1 H1 (Rl.ext x1) _ fun u F2 H2 x2 d2 => ?_⟩
  obtain ⟨p, vs, j, e1, hp, hj, R', f'⟩ := own_set (Rl.ext (x1.trans x2)) hρ (Dp.mono x2.ff d1) eys
  rw [e0] at e1; cases e1
  exact ⟨p0, vs, k, j, rfl, dp_int d2, hp, hj, q σ F2 _ R' ((Fr.of_ext (x1.trans x2)).trans f')⟩
def rGetL (K : PySem.W.Frag) : V → V → Hp → VK → Prop := fun o i H Q => ∃ p xs k v, o = .ref p ∧ i = .int k ∧ SqL K H p xs ∧ atI xs k = some v ∧ Q v H
theorem pget_list : PGet X (rGetL X.K) := by
  intro pins s σ H o i ov iv Q I ro ri h
  obtain ⟨p, xs, k, z, rfl, rfl, hq, he, q⟩ := h
  cases ro
  obtain ⟨t, rfl⟩ := ri
  obtain ⟨its, r, pl, hz⟩ := I.list hq
  obtain ⟨j, h1, h2, h3, h4, h5⟩ := atI_get he
  obtain ⟨w, ew, rw'⟩ := r.get h2
  have hl := r.length
  have hn := line63
  have fin : EP X pins σ Q w s := ⟨z, H, I, rw', q⟩
  by_cases h0 : 0 ≤ k
  · have hj : k.toNat = j := by
      rw [seqIndex_of h0 h5] at h1
      exact Option.some.inj h1
    exact wpAny_getItem_list pl.isList h0 (by omega) (by rw [hj]; simpa using ew) fin
  · have hj : (k + (its.toArray.size : Int)).toNat = j := by
      rw [seqIndex_neg (by omega) h4] at h1
      rw [List.size_toArray, ← hl]
      exact Option.some.inj h1
    exact wpAny_getItem_list_neg pl.isList (by omega) (by rw [List.size_toArray] <;> omega) (by omega) (by rw [hj]; simpa using ew) fin
def augAt (ip : Int → Int → Int) (xs : List Int) (k z : Int) : Option (List Int) := (atI xs k).bind fun y => setAt xs k (ip y z)
theorem s1_augS {p2 : Pos} {op : Operator} {ip : Int → Int → Int} {xs : List Int} {m mk : Option Int} (hip : PIp X op (ipI ip)) (h : PV X ρ e m (aD dI)) (hk : PV X ρ c mk (aD dI)) (hρ : ρ[i]? = some (.own (xs.map dI))) (hi : X.N[i]? = some x) (hv : Vis X.env.scope x)
    (hd : (x == ("__debug__" : Str)) = false := by decide) (hcd : (x == ("__classdict__" : Str)) = false := by decide) (ha : ∀ ov iv new, augStore c ov iv new = (do holding [new, ov, iv] (setItem ov iv new); release [new, ov, iv] []; pure .next) := by intros; rfl) :
    S1 X ρ (.AugAssign (.Subscript (.Name x pos') c p2) op e pos) ((mk.bind fun k => m.bind fun z => augAt ip xs k z).bind fun ys => some (.inl ys)) (fun ys => ρ.set i (.own (ys.map dI))) fr := .mk fun r er σ F H Rl De q => by
  obtain ⟨ys, eys, er⟩ := bind_some er
  obtain ⟨k, ek, eys⟩ := bind_some eys
  obtain ⟨z, ez, eys⟩ := bind_some eys
  cases er
  obtain ⟨y, ey, eys⟩ := bind_some eys
  refine PS.to (ps_augS (pe_var hi hv hd hcd) pE pget_list pE hip set_list ha) ?_
  obtain ⟨p0, vs0, e0, _⟩ := Rl.at_ i _ hρ
  refine ⟨.ref p0, e0, hk k ek σ F H Rl _ fun u F1 H1 x1 d1 => ?_⟩
  obtain ⟨p, vs, e1, hp, hf, hdd⟩ := (Rl.ext x1).at_ i _ hρ
  rw [e0] at e1; cases e1
  obtain ⟨v1, hv1, dv1⟩ := DpAll.atI hdd (atI_map (f := dI) ey)
  refine ⟨p0, vs, k, v1, rfl, dp_int d1, SqL.of hp, hv1, h z ez σ F1 H1 (Rl.ext x1) _ fun v2 F2 H2 x2 d2 => ?_⟩
  refine ⟨y, z, dp_int dv1, dp_int d2, ?_⟩
  obtain ⟨p', vs', j, e1, hp', hj, R', f'⟩ := own_set (f := dI) (Rl.ext (x1.trans x2)) hρ (v := .int (ip y z)) (.int _) eys
  rw [e0] at e1; cases e1
  exact ⟨p0, vs', k, j, rfl, dp_int (Dp.mono x2.ff d1), hp', hj, q σ F2 _ R' ((Fr.of_ext (x1.trans x2)).trans f')⟩
/-! xs.append(e) .. -/
theorem swap_expr {e : Expr} : True := trivial
def appT (xs : List α) (y : α) : Option (List α) := if xs.length < sizeLine then some (xs ++ [y]) else none
theorem s1_append {xs : List α} {f : α → D} {m : Option α} {apos cpos : Pos} (h : PV X ρ e m (aD f)) (hρ : ρ[i]? = some (.own (xs.map f))) (hi : X.N[i]? = some x) (hv : Vis X.env.scope x)
    (hs : swapsWith (.Call (.Attribute (.Name x pos') "append" apos) [e] [] cpos) none pos.line X.env = pure false := by rfl)
    (hd : (x == ("__debug__" : Str)) = false := by decide) (hcd : (x == ("__classdict__" : Str)) = false := by decide) (hbase : attributeBase (.Name x pos') "append" X.env (eval (.Name x pos') X.env) = eval (.Name x pos') X.env := by rfl)
    (hfew : ((backTo cpos (starEach [e] X.env)).all (fun x => !x.1) && (backToKw cpos (keywordEach [] X.env)).all (fun x => x.1.isSome) && decide (([e] : List Expr).length + ([] : List Keyword).length + (if ([] : List Keyword).isEmpty then 0 else 1) < 30)) = true := by rfl)
    (hline : (apos.endLine == cpos.line) = true := by rfl) (hse : starEach [e] X.env = (false, eval e X.env) :: starEach [] X.env := by rfl) (hplain : (backTo cpos (starEach [] X.env)).any (·.1) = false := by rfl) :
    S1 X ρ (.Expr (.Call (.Attribute (.Name x pos') "append" apos) [e] [] cpos) pos) ((m.bind fun y => appT xs y).bind fun ys => some (.inl ys)) (fun ys => ρ.set i (.own (ys.map f))) fr := .mk fun r er σ F H Rl De q => by
  obtain ⟨ys, eys, er⟩ := bind_some er
  obtain ⟨y, ey, eys⟩ := bind_some eys
  cases er
  obtain ⟨hz, rfl⟩ := ite_some eys
  refine PS.to (ps_expr (pe_bm PySem.F.plainAttrs_list PySem.F.slot_list_append PySem.F.type_list_append mt_append (pe_var hi hv hd hcd) (pa_cons pE pa_nil hse) hbase hfew hline hse hplain) hs) ?_
  obtain ⟨p, vs, e0, hp, hf, hdd⟩ := Rl.at_ i _ hρ
  refine ⟨.ref p, e0, .inl ⟨rfl, _, SqL.of hp⟩, h y ey σ F H Rl _ fun v F1 H1 x1 d1 => ?_⟩
  have hp1 := x1.hh _ _ hp
  have hl : vs.length = xs.length := by rw [DpAll.length hdd, List.length_map]
  have hd' : DpAll X.K F1 (vs ++ [v]) ((xs ++ [y]).map f) := by
    rw [List.map_append]
    exact DpAll.append (DpAll.mono x1.ff hdd) (.cons d1 .nil)
  obtain ⟨R', f'⟩ := (Rl.ext x1).change hρ e0 hd'
  exact ⟨p, vs, v, rfl, rfl, hp1, by omega, q σ F1 _ R' ((Fr.of_ext x1).trans f')⟩
theorem s1_extend {xs : List α} {f : α → D} {f1 : List α → AD} {m : Option (List α)} {apos cpos : Pos} (h : PV X ρ e m f1) (hρ : ρ[i]? = some (.own (xs.map f))) (hi : X.N[i]? = some x) (hv : Vis X.env.scope x) (h1 : ∀ xs, (f1 xs).dat = .list (xs.map f) := by intro _; rfl)
    (hs : swapsWith (.Call (.Attribute (.Name x pos') "extend" apos) [e] [] cpos) none pos.line X.env = pure false := by rfl)
    (hd : (x == ("__debug__" : Str)) = false := by decide) (hcd : (x == ("__classdict__" : Str)) = false := by decide) (hbase : attributeBase (.Name x pos') "extend" X.env (eval (.Name x pos') X.env) = eval (.Name x pos') X.env := by rfl)
    (hfew : ((backTo cpos (starEach [e] X.env)).all (fun x => !x.1) && (backToKw cpos (keywordEach [] X.env)).all (fun x => x.1.isSome) && decide (([e] : List Expr).length + ([] : List Keyword).length + (if ([] : List Keyword).isEmpty then 0 else 1) < 30)) = true := by rfl)
    (hline : (apos.endLine == cpos.line) = true := by rfl) (hse : starEach [e] X.env = (false, eval e X.env) :: starEach [] X.env := by rfl) (hplain : (backTo cpos (starEach [] X.env)).any (·.1) = false := by rfl) :
    S1 X ρ (.Expr (.Call (.Attribute (.Name x pos') "extend" apos) [e] [] cpos) pos) ((m.bind fun y => catT xs y).bind fun ys => some (.inl ys)) (fun ys => ρ.set i (.own (ys.map f))) fr := .mk fun r er σ F H Rl De q => by
  obtain ⟨ys, eys, er⟩ := bind_some er
  obtain ⟨y, ey, eys⟩ := bind_some eys
  cases er
  obtain ⟨hz, rfl⟩ := ite_some eys
  refine PS.to (ps_expr (pe_bm PySem.F.plainAttrs_list PySem.F.slot_list_extend PySem.F.type_list_extend mt_extendW (pe_var hi hv hd hcd) (pa_cons pE pa_nil hse) hbase hfew hline hse hplain) hs) ?_
  obtain ⟨p, vs, e0, hp, hf, hdd⟩ := Rl.at_ i _ hρ
  refine ⟨.ref p, e0, .inl ⟨rfl, _, SqL.of hp⟩, h y ey σ F H Rl _ fun v F1 H1 x1 d1 => ?_⟩
  have hp1 := x1.hh _ _ hp
  obtain ⟨p2, ws, rfl, hs2, hd2⟩ := d1.lst x1.fh (h1 y)
  have hl : vs.length = xs.length := by rw [DpAll.length hdd, List.length_map]
  have hl2 : ws.length = y.length := by rw [DpAll.length hd2, List.length_map]
  have hd' : DpAll X.K F1 (vs ++ ws) ((xs ++ y).map f) := by
    rw [List.map_append]
    exact DpAll.append (DpAll.mono x1.ff hdd) hd2
  obtain ⟨R', f'⟩ := (Rl.ext x1).change hρ e0 hd'
  exact ⟨p, p2, vs, ws, rfl, rfl, hp1, hs2, by omega, q σ F1 _ R' ((Fr.of_ext x1).trans f')⟩
theorem s1_reverse {xs : List α} {f : α → D} {apos cpos : Pos} (hρ : ρ[i]? = some (.own (xs.map f))) (hi : X.N[i]? = some x) (hv : Vis X.env.scope x)
    (hs : swapsWith (.Call (.Attribute (.Name x pos') "reverse" apos) [] [] cpos) none pos.line X.env = pure false := by rfl)
    (hd : (x == ("__debug__" : Str)) = false := by decide) (hcd : (x == ("__classdict__" : Str)) = false := by decide) (hbase : attributeBase (.Name x pos') "reverse" X.env (eval (.Name x pos') X.env) = eval (.Name x pos') X.env := by rfl) (hline : (apos.endLine == cpos.line) = true := by rfl) :
    S1 X ρ (.Expr (.Call (.Attribute (.Name x pos') "reverse" apos) [] [] cpos) pos) ((some xs.reverse).bind fun ys => some (.inl ys)) (fun ys => ρ.set i (.own (ys.map f))) fr := .mk fun r er σ F H Rl De q => by
  cases er
  refine PS.to (ps_expr (pe_bm0 PySem.F.plainAttrs_list PySem.F.slot_list_reverse PySem.F.type_list_reverse mt_reverse (pe_var hi hv hd hcd) hbase hline) hs) ?_
  obtain ⟨p, vs, e0, hp, hf, hdd⟩ := Rl.at_ i _ hρ
  have hd' : DpAll X.K F vs.reverse (xs.reverse.map f) := by
    rw [List.map_reverse]
    exact DpAll.reverse hdd
  obtain ⟨R', f'⟩ := Rl.change hρ e0 hd'
  exact ⟨.ref p, e0, .inl ⟨rfl, _, SqL.of hp⟩, p, vs, rfl, rfl, hp, q σ F _ R' f'⟩
/-! if, return, pass -/
theorem s1_if {mc : Option Bool} {mA mB : Option (Sum S R)} (hc : PTe X ρ c mc) (hA : SV X ρ body mA E fr) (hB : SV X ρ els mB E fr) : S1 X ρ (.If c body els pos) (mc.bind fun k => if k then mA else mB) E fr := .mk fun r er σ F H Rl De q => by
  obtain ⟨k, ek, er⟩ := bind_some er
  refine PS.to (ps_if pT pSs pSs) (hc k ek σ F H Rl _ fun F1 H1 x1 => ?_)
  have q' : SOk X ρ σ F1 H1 De E fr r := q.pre (Fr.of_ext x1)
  cases k with
  | true => exact iteT (hA r er σ F1 H1 (Rl.ext x1) De q')
  | false => exact iteF (hB r er σ F1 H1 (Rl.ext x1) De q')
theorem s1_pass {s : S} (h : E s = ρ) : S1 X ρ (.Pass pos) ((some s).bind fun s => some (.inl s)) E fr := .mk fun r er σ F H Rl De q => by
  cases er
  exact PS.to ps_pass (q σ F H (by rw [h]; exact Rl) (by rw [h]; exact fr_refl Rl.sub))
theorem lent_nil {K : PySem.W.Frag} {F H : Hp} : Lent K F H [] := fun _ h => (nomatch h)
/-- the lent lists of the slots -/
def LentAt (ρ : Rho) (bs : List (Addr × List D)) : Prop := ∀ q ∈ bs, ∃ i : Nat, ρ[i]? = some (.brw q.1 q.2)
theorem lentAt_nil : LentAt ρ [] := fun _ h => (nomatch h)
theorem lentAt_one {p : Addr} {ds : List D} (j : Nat) (h : ρ[j]? = some (.brw p ds)) : LentAt ρ [(p, ds)] := fun q hq => by
  have e : q = (p, ds) := by simpa using hq
  subst e
  exact ⟨j, h⟩
theorem LentAt.lent {σ : L2.St} {F H : Hp} {bs : List (Addr × List D)} (l : LentAt ρ bs) (Rl : Rel X.K ρ σ F H) : Lent X.K F H bs := fun q hq => by
  obtain ⟨i, hi⟩ := l q hq
  obtain ⟨vs, _, h1, h2, h3⟩ := Rl.at_ i _ hi
  exact ⟨vs, h1, h2, h3⟩
theorem LentAt.own {σ : L2.St} {F H : Hp} {bs : List (Addr × List D)} (l : LentAt ρ bs) (Rl : Rel X.K ρ σ F H) : ∀ q ∈ bs, ∃ i : Nat, ownAt ρ σ i q.1 ∧ ∃ p ds, ρ[i]? = some (.brw p ds) := fun q hq => by
  obtain ⟨i, hi⟩ := l q hq
  obtain ⟨vs, e, _⟩ := Rl.at_ i _ hi
  exact ⟨i, ⟨e, _, hi, rfl⟩, _, _, hi⟩
theorem s1_ret {m : Option R} {f : R → D} {bs : R → List (Addr × List D)} (h : PV X ρ e m (aD f)) (hf : ∀ r, fr r = .rt (f r) (bs r)) (hl : ∀ r, LentAt ρ (bs r) := by exact fun _ => lentAt_nil) : S1 X ρ (.Return (some e) pos) (m.bind fun z => some (.inr z)) E fr := .mk fun r er σ F H Rl De q => by
  obtain ⟨z, ez, er⟩ := bind_some er
  cases er
  have q' : FinOk X ρ σ F H De (fr z) := q
  rw [hf] at q'
  exact PS.to (ps_ret pE) (h z ez σ F H Rl _ fun v F1 H1 x1 d1 => q' v F1 H1 (Fx.of (Fr.of_ext x1) x1.fh) ((hl z).lent (Rl.ext x1)) d1)
theorem s1_retN {m : Option R} {f : R → List D} {bs : R → List (Addr × List D)} (h : PN X ρ e m f) (hf : ∀ r, fr r = .rn (f r) (bs r)) (hl : ∀ r, LentAt ρ (bs r) := by exact fun _ => lentAt_nil) : S1 X ρ (.Return (some e) pos) (m.bind fun z => some (.inr z)) E fr := .mk fun r er σ F H Rl De q => by
  obtain ⟨z, ez, er⟩ := bind_some er
  cases er
  have q' : FinOk X ρ σ F H De (fr z) := q
  rw [hf] at q'
  refine PS.to (ps_ret pE) (h z ez σ F H Rl _ fun p vs F1 H1 x1 hn hp hf d1 => q' p vs F1 H1 (Fx.of (Fr.of_ext x1) x1.fh) ((hl z).lent (Rl.ext x1)) (.inl hn) hp hf (fun b hb hbp => ?_) d1)
  obtain ⟨vs', h1, _⟩ := (hl z).lent Rl b hb
  rw [hbp, hn] at h1; cases h1
/-- return xs, an own list: the slot lets it go -/
theorem s1_retO {f : R → List D} {bs : R → List (Addr × List D)} {z : R} {px : Pos} (hρ : ρ[i]? = some (.own (f z))) (hi : X.N[i]? = some x) (hv : Vis X.env.scope x) (hf : fr z = .rn (f z) (bs z)) (hl : LentAt ρ (bs z) := by exact lentAt_nil) (hd : (x == ("__debug__" : Str)) = false := by decide) (hcd : (x == ("__classdict__" : Str)) = false := by decide) :
    S1 X ρ (.Return (some (.Name x px)) pos) (some (.inr z)) E fr := .mk fun r er σ F H Rl De q => by
  cases er
  have q' : FinOk X ρ σ F H De (fr z) := q
  rw [hf] at q'
  obtain ⟨p, vs, e0, hp, hF, hdd⟩ := Rl.at_ i _ hρ
  refine PS.to (ps_ret (pe_var hi hv hd hcd)) ⟨.ref p, e0, q' p vs F H (Fx.of (fr_refl Rl.sub) Rl.sub) (hl.lent Rl) (.inr ⟨i, e0, _, hρ, rfl⟩) hp hF (fun b hb hbp => ?_) hdd⟩
  obtain ⟨j, hj, p', ds', hj'⟩ := hl.own Rl b hb
  rw [hbp] at hj
  have := Rl.dis i j p ⟨e0, _, hρ, rfl⟩ hj
  subst this
  rw [hρ] at hj'
  cases hj'
theorem s1_retNone {r : R} {bs : List (Addr × List D)} (hf : fr r = .rt .none bs) (hl : LentAt ρ bs := by exact lentAt_nil) : S1 X ρ (.Return none pos) (some (.inr r)) E fr := .mk fun r' er σ F H Rl De q => by
  cases er
  have q' : FinOk X ρ σ F H De (fr r) := q
  rw [hf] at q'
  exact PS.to ps_retN (q' .non F H (Fx.of (fr_refl Rl.sub) Rl.sub) (hl.lent Rl) .non)
/-! for -/
def forM (its : List γ) (body : γ → S → Option (Sum S R)) (s : S) : Option (Sum S R) := match its with
  | [] => some (.inl s)
  | x :: xs => sq (body x s) fun s' => forM xs body s'
def Fin.isBk : Fin → Bool
  | .bk _ => true
  | _ => false
theorem FinOk.nobk {σ : L2.St} {F H : Hp} {De De' : Ends} {r : Fin} (hb : r.isBk = false) (hr : De'.rt = De.rt) (h : FinOk X ρ σ F H De r) : FinOk X ρ σ F H De' r := by
  cases r with
  | rt d bs => intro v F' H' f' l d'; rw [hr]; exact h v F' H' f' l d'
  | rn ds bs => intro p vs F' H' f' l hn hp hf ho d'; rw [hr]; exact h p vs F' H' f' l hn hp hf ho d'
  | bk ρ' => cases hb
theorem for_reading {K : PySem.W.Frag} {J : It} {its : List γ} {fx : γ → D} {g : TG} {tb : TS} {vs : List Nat} {u : γ → Rho → Rho} {mb : γ → S → Option (Sum S R)} {s0 : S} {σ : L2.St} {F1 H1 : Hp} {r : Sum S R} {De : Ends} (hK : K = X.K)
    (hJ : Yields X.K J (fun F' H' => Same F1 F' ∧ Same F' H') (its.map fx)) (Rl : Rel X.K (E s0) σ F1 H1) (gv : GV X.K g fx u vs) (hm : forM its mb s0 = some r) (hbk : ∀ r, (fr r).isBk = false) (q : SOk X (E s0) σ F1 H1 De E fr r)
    (hb : ∀ x s r, mb x s = some r → ∀ (σ : L2.St) (F H : Hp), Rel X.K (u x (E s)) σ F H → ∀ De : Ends, SOk X (u x (E s)) σ F H De E fr r → tb De σ H) :
    ∃ W : Nat → Nat → L2.St → Hp → Prop, (∃ m, W 0 m σ H1) ∧ ∀ i m σ H, W i m σ H →
      (J.stop i H ∧ De.nx σ H) ∨ (J.go i H ∧ ∃ N : L2.St → Hp → Prop, (∀ σ' H', N σ' H' → ∃ m', m' < m ∧ W (i + 1) m' σ' H') ∧ ∀ x H', J.yld i H x H' → g x σ H' fun σ2 H2 => tb { De with nx := N, ct := N, bk := De.nx } σ2 H2) := by
  have len : (its.map fx).length = its.length := List.length_map _
  let P : Nat → L2.St → Hp → Prop := fun i σ' H => i ≤ its.length ∧ ∃ (F : Hp) (s : S), Rel X.K (E s) σ' F H ∧ Same F1 F ∧ forM (its.drop i) mb s = some r ∧ SOk X (E s) σ' F H De E fr r
  refine ⟨fun i m σ' H => m = its.length - i ∧ P i σ' H, ⟨its.length, rfl, Nat.zero_le _, F1, s0, Rl, Same.refl _, hm, q⟩, ?_⟩
  rintro i m σ' H ⟨rfl, hi, F, s, R', sF, hleft, q'⟩
  have gg : Same F1 F ∧ Same F H := ⟨sF, R'.sub⟩
  by_cases hlt : i < its.length
  · refine .inr ⟨hJ.go i F H (by rw [len]; exact hlt) gg, P (i + 1), fun σ2 H2 p' => ⟨its.length - (i + 1), by omega, rfl, p'⟩, fun v H' y => ?_⟩
    have hit : its[i]? = some its[i] := List.getElem?_eq_getElem hlt
    obtain ⟨F', x2, d2⟩ := hJ.yld i F H v H' (fx its[i]) gg R'.sub (by rw [List.getElem?_map, hit]; rfl) y
    refine gv its[i] v _ _ F' H' (R'.ext x2) d2 _ fun σ2 R2 f2 _ => ?_
    rw [List.drop_eq_getElem_cons hlt] at hleft
    unfold forM at hleft
    have fr1 : Fr (E s) σ' F H (u its[i] (E s)) σ2 F' H' := (Fr.of_ext x2).trans f2
    cases hmb : mb its[i] s with
    | none => rw [hmb] at hleft; cases hleft
    | some o =>
      rw [hmb] at hleft
      refine hb its[i] s o hmb σ2 F' H' R2 _ ?_
      cases o with
      | inl s' =>
        intro σ3 F3 H3 R3 f3
        exact ⟨hlt, F3, s', R3, sF.trans ((fr1.trans f3).ff), hleft, q'.pre (fr1.trans f3)⟩
      | inr z =>
        cases hleft
        exact FinOk.pre fr1 (FinOk.nobk (De := De) (hbk z) rfl q')
  · have e : i = its.length := by omega
    subst e
    rw [List.drop_length] at hleft
    cases hleft
    exact .inl ⟨by rw [← len]; exact hJ.stop F H gg, q' σ' F H R' (fr_refl R'.sub)⟩
theorem s1_for {fx : γ → D} {g : TG} {u : γ → Rho → Rho} {vs : List Nat} {mi : Option (List γ)} {mb : γ → S → Option (Sum S R)} {s0 : S} (hp : PassesOwn (model X.prog X.w) X.A X.env X.xe) (hc : X.calm = true) (hi : PIt X ρ tg iter mi fx true) (hg : PG X tg g) (gv : GV X.K g fx u vs) (h0 : E s0 = ρ)
    (hb : ∀ x s, SV X (u x (E s)) body (mb x s) E fr) (hbk : ∀ r, (fr r).isBk = false) (hs : ∀ x, foldedSetIterable iter X.env x = pure x := by intro _; rfl) :
    S1 X ρ (.For tg iter body [] pos) (mi.bind fun its => forM its mb s0) E fr := .mk fun r er σ F H Rl De q => by
  obtain ⟨its, eits, er⟩ := bind_some er
  subst h0
  refine PS.to (ps_for hp hc (pI X) hg pSs hs) (hi its eits σ F H Rl _ fun J F1 H1 x1 y => ?_)
  exact for_reading (K := X.K) rfl (y.mono fun F' H' z => by rw [if_pos rfl]; exact z) (Rl.ext x1) gv er hbk (q.pre (Fr.of_ext x1)) fun x s r em σ F H R De qq => hb x s r em σ F H R De qq
/-! while -/
def whileM (fuel : Nat) (c : S → Option Bool) (body : S → Option (Sum S R)) (s : S) : Option (Sum S R) := match fuel with
  | 0 => none
  | n + 1 => (c s).bind fun k => if k then sq (body s) fun s' => whileM n c body s' else some (.inl s)
theorem s1_while {mc : S → Option Bool} {mb : S → Option (Sum S R)} {s0 : S} {fuel : Nat} (hp : PassesOwn (model X.prog X.w) X.A X.env X.xe) (h0 : E s0 = ρ) (hc : ∀ s, PTe X (E s) c (mc s)) (hb : ∀ s, SV X (E s) body (mb s) E fr) (hbk : ∀ r, (fr r).isBk = false) :
    S1 X ρ (.While c body [] pos) (whileM fuel mc mb s0) E fr := .mk fun r er σ F H Rl De q => by
  subst h0
  refine PS.to (ps_while hp pT pSs) ?_
  refine ⟨fun m σ' H' => ∃ (F' : Hp) (s : S), Rel X.K (E s) σ' F' H' ∧ whileM m mc mb s = some r ∧ SOk X (E s) σ' F' H' De E fr r, ⟨fuel, F, s0, Rl, er, q⟩, ?_⟩
  rintro m σ' H' ⟨F', s, R', hw, q'⟩
  cases m with
  | zero => cases hw
  | succ n =>
    unfold whileM at hw
    obtain ⟨k, ek, hw⟩ := bind_some hw
    refine hc s k ek σ' F' H' R' _ fun F1 H1 x1 => ?_
    cases k with
    | false =>
      cases hw
      rw [if_neg Bool.false_ne_true]
      exact q' σ' F1 H1 (R'.ext x1) (Fr.of_ext x1)
    | true =>
      rw [if_pos rfl] at hw ⊢
      refine ⟨fun σ2 H2 => ∃ (F2 : Hp) (s2 : S), Rel X.K (E s2) σ2 F2 H2 ∧ whileM n mc mb s2 = some r ∧ SOk X (E s2) σ2 F2 H2 De E fr r, fun σ2 H2 z => ⟨n, Nat.lt_succ_self _, z⟩, ?_⟩
      cases hmb : mb s with
      | none => rw [hmb] at hw; cases hw
      | some o =>
        rw [hmb] at hw
        refine hb s o hmb σ' F1 H1 (R'.ext x1) _ ?_
        cases o with
        | inl s' =>
          intro σ3 F3 H3 R3 f3
          exact ⟨F3, s', R3, hw, q'.pre ((Fr.of_ext x1).trans f3)⟩
        | inr z =>
          cases hw
          exact FinOk.pre (Fr.of_ext x1) (FinOk.nobk (De := De) (hbk z) rfl q')
end

/-! ### a def by its body -/
section
variable {α β S : Type} {P : Program} {w : World} {K : PySem.W.Frag} {mg : Str → Option Value} {base : Heap}
theorem rel_start {N : List Str} {vs : List V} {ds : List D} {F H : Hp} (hl : vs.length ≤ N.length) (s : Same F H) (d : DpAll K F vs ds) : Rel K (ds.map Sl.val ++ List.replicate (N.length - ds.length) Sl.un) (L2.start N vs) F H where
  sub := s
  at_ := fun i sl e => by
    by_cases hi : i < ds.length
    · rw [List.getElem?_append_left (by rw [List.length_map]; exact hi), List.getElem?_map] at e
      cases ed : ds[i]? with
      | none => rw [ed] at e; cases e
      | some x =>
        rw [ed] at e
        cases e
        obtain ⟨v, hv, dv⟩ := DpAll.get' d ed
        refine ⟨v, ?_, dv⟩
        unfold L2.start
        rw [List.getElem?_append_left (by rw [List.length_map, DpAll.length d]; exact hi), List.getElem?_map, hv]
        rfl
    · rw [List.getElem?_append_right (by rw [List.length_map]; omega)] at e
      have := List.mem_of_getElem? e
      rw [List.mem_replicate] at this
      rw [this.2]
      trivial
  dis := fun i j b h _ => by
    obtain ⟨_, s', es, ow⟩ := h
    have hm := List.mem_of_getElem? es
    rcases List.mem_append.mp hm with hm | hm
    · obtain ⟨d', _, rfl⟩ := List.mem_map.mp hm
      cases ow
    · rw [List.mem_replicate] at hm
      rw [hm.2] at ow
      cases ow
  len := by
    unfold L2.start
    rw [List.length_append, List.length_append, List.length_map, List.length_map, List.length_replicate, List.length_replicate, DpAll.length d]
theorem no_owns {σ : L2.St} {b : Addr} {ds : List D} {n : Nat} : ¬ owns (ds.map Sl.val ++ List.replicate n Sl.un) σ b := fun ⟨i, h⟩ => by
  obtain ⟨_, s', es, ow⟩ := h
  have hm := List.mem_of_getElem? es
  rcases List.mem_append.mp hm with hm | hm
  · obtain ⟨d', _, rfl⟩ := List.mem_map.mp hm
    cases ow
  · rw [List.mem_replicate] at hm
    rw [hm.2] at ow
    cases ow
theorem Fr.ext {ρ ρ' : Rho} {σ σ' : L2.St} {F H F' H' : Hp} (f : Fr ρ σ F H ρ' σ' F' H') (no : ∀ b, ¬ owns ρ σ b) (s : Same F' H') : Ext F H F' H' :=
  ⟨f.ff, fun b o e => f.hh b o e (no b), s, fun b o e => (f.nw b o e).elim .inl fun z => z.elim .inr fun z => absurd z (no b)⟩
theorem Fx.ext {ρ : Rho} {σ : L2.St} {F H F' H' : Hp} (f : Fx ρ σ F H F' H') (no : ∀ b, ¬ owns ρ σ b) : Ext F H F' H' :=
  ⟨f.ff, fun b o e => f.hh b o e (no b), f.sub, fun b o e => (f.nw b o e).elim .inl fun z => z.elim .inr fun z => absurd z (no b)⟩
abbrev bodyX (P : Program) (w : World) (K : PySem.W.Frag) (mg : Str → Option Value) (base : Heap) (N : List Str) (qual : Str) (st : Stmt) (f : Addr) (cdv : Value) (A : Around) (outer : List Env) (s : Shared) (H : Hp) (E : XK) : Cx :=
  (cxOf CX0 P w K mg base N qual (defScope st) f cdv A outer s H E).nox
/-- what a body gives: its end, or what it returns -/
def outV (m : Option (Sum Unit β)) (r0 : Option β) : Option β := match m with
  | none => none
  | some (.inl _) => r0
  | some (.inr b) => some b
/-- a def that changes nothing; r0: what its end without a return is (None) -/
theorem fn_p {x qual : Str} {st : Stmt} {f : Addr} {fd : FuncData} {N ps : List Str} {k n : Nat} {enc : α → List D} {m : α → Option β} {fe : β → D} {mm : α → Option (Sum Unit β)} {r0 : Option β} {E0 : α → Unit → Rho} (F : Fun K x qual st f fd) (S : FnScope N ps (defScope st)) (hn : n = ps.length) (hN : n ≤ N.length)
    (hlen : ∀ a, (enc a).length = n) (hm : ∀ a, m a = outV (mm a) r0) (hr0 : ∀ b, r0 = some b → fe b = .none)
    (hbody : ∀ (cdv : Value) (A : Around) (outer : List Env) (s : Shared) (H : Hp) (E : XK), Room k (A.deeper (envOfC qual (defScope st) s.heap.objs.size f cdv)) → ∀ a : α,
      SV (bodyX P w K mg base N qual st f cdv A outer s H E) ((enc a).map Sl.val ++ List.replicate (N.length - n) Sl.un) (defBody st) (mm a) (E0 a) (fun b => .rt (fe b) [])) :
    FnOk P w K mg base CX0 (k + 1) f fd ps (spP K n enc m fe) := by
  refine F.ok S (fun vs H Q E h => ?_) (fun cdv A outer s H vs Q E hr h => ?_)
  · obtain ⟨_, _, _, e, _⟩ := h
    rw [e, hn]
  obtain ⟨Fz, a, b, hl, sm, d, hb, q⟩ := h
  refine ⟨tSs (bodyX P w K mg base N qual st f cdv A outer s H E) (defBody st), pSs, ?_⟩
  have R0 : Rel K ((enc a).map Sl.val ++ List.replicate (N.length - n) Sl.un) (L2.start N vs) Fz H := by
    have := rel_start (N := N) (by rw [hl]; exact hN) sm d
    rw [hlen] at this
    exact this
  rw [hm] at hb
  cases hmm : mm a with
  | none => rw [hmm] at hb; cases hb
  | some o =>
    rw [hmm] at hb
    refine hbody cdv A outer s H E hr a o hmm _ Fz H R0 _ ?_
    cases o with
    | inl u =>
      intro σ' F' H' R' f'
      refine q .non F' H' (f'.ext (fun b => no_owns) R'.sub) ?_
      rw [hr0 b hb]
      exact .non
    | inr z =>
      cases hb
      intro v F' H' f' _ d'
      exact q v F' H' (f'.ext fun b => no_owns) d'
/-- .. that returns a new list -/
theorem fn_n {x qual : Str} {st : Stmt} {f : Addr} {fd : FuncData} {N ps : List Str} {k n : Nat} {enc : α → List D} {m : α → Option β} {fe : β → List D} {mm : α → Option (Sum Unit β)} {E0 : α → Unit → Rho} (F : Fun K x qual st f fd) (S : FnScope N ps (defScope st)) (hn : n = ps.length) (hN : n ≤ N.length)
    (hlen : ∀ a, (enc a).length = n) (hm : ∀ a, m a = outV (mm a) none)
    (hbody : ∀ (cdv : Value) (A : Around) (outer : List Env) (s : Shared) (H : Hp) (E : XK), Room k (A.deeper (envOfC qual (defScope st) s.heap.objs.size f cdv)) → ∀ a : α,
      SV (bodyX P w K mg base N qual st f cdv A outer s H E) ((enc a).map Sl.val ++ List.replicate (N.length - n) Sl.un) (defBody st) (mm a) (E0 a) (fun b => .rn (fe b) [])) :
    FnOk P w K mg base CX0 (k + 1) f fd ps (spN K n enc m fe) := by
  refine F.ok S (fun vs H Q E h => ?_) (fun cdv A outer s H vs Q E hr h => ?_)
  · obtain ⟨_, _, _, e, _⟩ := h
    rw [e, hn]
  obtain ⟨Fz, a, b, hl, sm, d, hb, q⟩ := h
  refine ⟨tSs (bodyX P w K mg base N qual st f cdv A outer s H E) (defBody st), pSs, ?_⟩
  have R0 : Rel K ((enc a).map Sl.val ++ List.replicate (N.length - n) Sl.un) (L2.start N vs) Fz H := by
    have := rel_start (N := N) (by rw [hl]; exact hN) sm d
    rw [hlen] at this
    exact this
  rw [hm] at hb
  cases hmm : mm a with
  | none => rw [hmm] at hb; cases hb
  | some o =>
    rw [hmm] at hb
    refine hbody cdv A outer s H E hr a o hmm _ Fz H R0 _ ?_
    cases o with
    | inl u => cases hb
    | inr z =>
      cases hb
      intro p vs' F' H' f' _ hn' hp hf _ d'
      exact q p vs' F' H' (f'.ext fun b => no_owns) (hn'.elim id fun z => absurd z no_owns) hp hf d'
/-- a new list is data, too -/
theorem spN.spP {n : Nat} {enc : α → List D} {m : α → Option β} {fe : β → List D} {fd2 : β → D} {k : Nat} {f : Addr} {fd : FuncData} {ps : List Str} (G : FnOk P w K mg base CX0 k f fd ps (spN K n enc m fe)) (h : ∀ b, fd2 b = .list (fe b)) : FnOk P w K mg base CX0 k f fd ps (spP K n enc m fd2) :=
  G.imp fun vs H Q E ⟨F, a, b, hl, sm, d, hb, q⟩ => ⟨F, a, b, hl, sm, d, hb, fun p ws F' H' x hn hp hf d' => q _ _ _ (x.froze hp hn hf) (by rw [h]; exact Dp.lst (SqL.of upd_same) (DpAll.mono (same_upd hf _) d'))⟩
end
section
variable {X : Cx} {S R : Type} {ρ : Rho} {sts : List Stmt} {E : S → Rho} {fr : R → Fin}
theorem sv_eq {m m' : Option (Sum S R)} (h : SV X ρ sts m' E fr) (e : m' = m) : SV X ρ sts m E fr := by subst e; exact h
end
/-! ### names, once for a def -/
structure Nm (N : List Str) (sc : Scope) (i : Nat) (x : Str) : Prop where
  hN : N[i]? = some x
  hv : Vis sc x
  hd : (x == ("__debug__" : Str)) = false
  hcd : (x == ("__classdict__" : Str)) = false
section
variable {X : Cx} {α : Type} {ρ : Rho} {i : Nat} {x : Str} {pos : Pos}
theorem nv {f : α → D} {z : α} (n : Nm X.N X.env.scope i x) (hρ : ρ[i]? = some (.val (f z))) : PV X ρ (.Name x pos) (some z) (aD f) := pv_val hρ n.hN n.hv n.hd n.hcd
theorem no {f : α → D} {z : List α} (n : Nm X.N X.env.scope i x) (hρ : ρ[i]? = some (.own (z.map f))) : PV X ρ (.Name x pos) (some z) (aL f) := pv_own hρ n.hN n.hv n.hd n.hcd
end
section
variable {X : Cx} {S R : Type} {ρ : Rho} {sts : List Stmt} {E : S → Rho} {fr : R → Fin}
theorem sv_ex {m : Option (Sum S R)} (h : ∃ m', SV X ρ sts m' E fr ∧ m' = m) : SV X ρ sts m E fr := by
  obtain ⟨m', h, rfl⟩ := h
  exact h
/-- the slots told anew -/
theorem sv_at (ρ' : Rho) (e : ρ = ρ') {m : Option (Sum S R)} (h : SV X ρ' sts m E fr) : SV X ρ sts m E fr := by subst e; exact h
end

/-! ### blocks that fall through, blocks that return -/
section
variable {α β γ δ S S' R R' : Type}
/-- a statement that is never left but at its end -/
abbrev N10 (X : Cx) (ρ : Rho) (st : Stmt) (m : Option S) (E : S → Rho) : Prop := ∀ (R : Type) (fr : R → Fin), S1 X ρ st (m.bind fun s => some (Sum.inl s)) E fr
structure N1 (X : Cx) (ρ : Rho) (st : Stmt) (m : Option S) (E : S → Rho) : Prop where
  run : N10 X ρ st m E
instance (X : Cx) (ρ : Rho) (st : Stmt) (m : Option S) (E : S → Rho) : CoeFun (N1 X ρ st m E) (fun _ => N10 X ρ st m E) := ⟨fun h => h.run⟩
abbrev SN0 (X : Cx) (ρ : Rho) (sts : List Stmt) (m : Option S) (E : S → Rho) : Prop := ∀ (R : Type) (fr : R → Fin), SV X ρ sts (m.bind fun s => some (Sum.inl s)) E fr
structure SN (X : Cx) (ρ : Rho) (sts : List Stmt) (m : Option S) (E : S → Rho) : Prop where
  run : SN0 X ρ sts m E
instance (X : Cx) (ρ : Rho) (sts : List Stmt) (m : Option S) (E : S → Rho) : CoeFun (SN X ρ sts m E) (fun _ => SN0 X ρ sts m E) := ⟨fun h => h.run⟩
/-- a block that always returns -/
abbrev SR0 (X : Cx) (ρ : Rho) (sts : List Stmt) (m : Option R) (fr : R → Fin) : Prop := ∀ (S : Type) (E : S → Rho), SV X ρ sts (m.bind fun r => some (Sum.inr r)) E fr
structure SR (X : Cx) (ρ : Rho) (sts : List Stmt) (m : Option R) (fr : R → Fin) : Prop where
  run : SR0 X ρ sts m fr
instance (X : Cx) (ρ : Rho) (sts : List Stmt) (m : Option R) (fr : R → Fin) : CoeFun (SR X ρ sts m fr) (fun _ => SR0 X ρ sts m fr) := ⟨fun h => h.run⟩
variable {X : Cx} {ρ : Rho} {a b c e iter tg : Expr} {st : Stmt} {rest body els : List Stmt} {pos pos' : Pos} {E : S → Rho} {E' : S' → Rho} {fr : R → Fin} {i : Nat} {x : Str}
theorem sq_bind {m : Option S} {k : S → Option (Sum S' R)} : sq (m.bind fun s => some (Sum.inl (β := R) s)) k = m.bind k := by cases m <;> rfl
/-! fall through -/
theorem sn_nil {s : S} (h : E s = ρ) : SN X ρ [] (some s) E := .mk fun _ fr => sv_nil h
theorem sn_cons {m1 : Option S} {m2 : S → Option S'} (h1 : N1 X ρ st m1 E) (h2 : ∀ s, SN X (E s) rest (m2 s) E') : SN X ρ (st :: rest) (m1.bind m2) E' := .mk fun _ fr =>
  sv_eq (sv_cons (h1 _ fr) fun s => h2 s _ fr) (by cases m1 <;> rfl)
theorem sn_w (is : List Nat) (ρ' : Rho) {m : Option S} (e : wipeR ρ is = ρ') (h : SN X ρ' rest m E) : SN X ρ rest m E := by
  subst e
  induction is with
  | nil => exact h
  | cons i is ih => exact ih (.mk fun _ fr => sv_forget i (h _ fr))
theorem sn_fz {m : Option S} {ds : List D} (i : Nat) (hi : ρ[i]? = some (.own ds)) (h : SN X (ρ.set i (.val (.list ds))) rest m E) : SN X ρ rest m E := .mk fun _ fr => sv_freeze i hi (h _ fr)
theorem n1_if {mc : Option Bool} {mA mB : Option S} (hc : PTe X ρ c mc) (hA : SN X ρ body mA E) (hB : SN X ρ els mB E) : N1 X ρ (.If c body els pos) (mc.bind fun k => if k then mA else mB) E := .mk fun _ fr => .mk fun r er => by
  refine s1_if hc (hA _ fr) (hB _ fr) r ?_
  cases mc with
  | none => cases er
  | some k => cases k <;> exact er
theorem n1_pass {s : S} (h : E s = ρ) : N1 X ρ (.Pass pos) (some s) E := .mk fun _ fr => s1_pass h
def forN (its : List γ) (body : γ → S → Option S) (s : S) : Option S := match its with
  | [] => some s
  | x :: xs => (body x s).bind fun s' => forN xs body s'
theorem forM_N {mb : γ → S → Option S} : ∀ {its : List γ} {s : S}, forM its (fun x s => (mb x s).bind fun s' => some (Sum.inl (β := R) s')) s = (forN its mb s).bind fun s' => some (Sum.inl s')
  | [], _ => rfl
  | x :: xs, s => by
    unfold forM forN
    cases mb x s with
    | none => rfl
    | some s' => exact forM_N (its := xs) (s := s')
theorem n1_for {fx : γ → D} {g : TG} {u : γ → Rho → Rho} {vs : List Nat} {mi : Option (List γ)} {mb : γ → S → Option S} {s0 : S} (hp : PassesOwn (model X.prog X.w) X.A X.env X.xe) (hc : X.calm = true) (hi : PIt X ρ tg iter mi fx true) (hg : PG X tg g) (gv : GV X.K g fx u vs) (h0 : E s0 = ρ)
    (hb : ∀ x s, SN X (u x (E s)) body (mb x s) E) (hs : ∀ x, foldedSetIterable iter X.env x = pure x := by intro _; rfl) : N1 X ρ (.For tg iter body [] pos) (mi.bind fun its => forN its mb s0) E := .mk fun R fr => .mk fun r er => by
  obtain ⟨s, es, er⟩ := bind_some er
  cases er
  obtain ⟨its, ei, es⟩ := bind_some es
  intro σ F H Rl De q
  refine s1_for (fr := fun z : Empty => z.elim) hp hc hi hg gv h0 (fun x s => hb x s _ _) (fun z => z.elim) hs (.inl s) ?_ σ F H Rl De q
  rw [ei]
  show forM its _ s0 = _
  rw [forM_N, es]
  rfl
def whileN (fuel : Nat) (c : S → Option Bool) (body : S → Option S) (s : S) : Option S := match fuel with
  | 0 => none
  | n + 1 => (c s).bind fun k => if k then (body s).bind fun s' => whileN n c body s' else some s
theorem whileM_N {mc : S → Option Bool} {mb : S → Option S} : ∀ {fuel : Nat} {s : S}, whileM fuel mc (fun s => (mb s).bind fun s' => some (Sum.inl (β := R) s')) s = (whileN fuel mc mb s).bind fun s' => some (Sum.inl s')
  | 0, _ => rfl
  | n + 1, s => by
    unfold whileM whileN
    cases mc s with
    | none => rfl
    | some k =>
      cases k with
      | false => rfl
      | true =>
        cases mb s with
        | none => rfl
        | some s' => exact whileM_N (fuel := n) (s := s')
theorem n1_while {mc : S → Option Bool} {mb : S → Option S} {s0 : S} {fuel : Nat} (hp : PassesOwn (model X.prog X.w) X.A X.env X.xe) (h0 : E s0 = ρ) (hc : ∀ s, PTe X (E s) c (mc s)) (hb : ∀ s, SN X (E s) body (mb s) E) : N1 X ρ (.While c body [] pos) (whileN fuel mc mb s0) E := .mk fun R fr => .mk fun r er => by
  obtain ⟨s, es, er⟩ := bind_some er
  cases er
  intro σ F H Rl De q
  refine s1_while (fuel := fuel) (fr := fun z : Empty => z.elim) hp h0 hc (fun s => hb s _ _) (fun z => z.elim) (.inl s) ?_ σ F H Rl De q
  rw [whileM_N, es]
  rfl
/-! return -/
theorem sr_cons {m1 : Option S} {m2 : S → Option R} (h1 : N1 X ρ st m1 E) (h2 : ∀ s, SR X (E s) rest (m2 s) fr) : SR X ρ (st :: rest) (m1.bind m2) fr := .mk fun _ E2 =>
  sv_eq (sv_cons (h1 _ fr) fun s => h2 s _ E2) (by cases m1 <;> rfl)
theorem sr_w (is : List Nat) (ρ' : Rho) {m : Option R} (e : wipeR ρ is = ρ') (h : SR X ρ' rest m fr) : SR X ρ rest m fr := by
  subst e
  induction is with
  | nil => exact h
  | cons i is ih => exact ih (.mk fun _ E => sv_forget i (h _ E))
theorem sr_fz {m : Option R} {ds : List D} (i : Nat) (hi : ρ[i]? = some (.own ds)) (h : SR X (ρ.set i (.val (.list ds))) rest m fr) : SR X ρ rest m fr := .mk fun _ E => sv_freeze i hi (h _ E)
theorem sr_ret {m : Option R} {f : R → D} {bs : R → List (Addr × List D)} (h : PV X ρ e m (aD f)) (hf : ∀ r, fr r = .rt (f r) (bs r) := by exact fun _ => rfl) (hl : ∀ r, LentAt ρ (bs r) := by exact fun _ => lentAt_nil) : SR X ρ [.Return (some e) pos] m fr := .mk fun _ E => sv_one (s1_ret h hf hl)
theorem sr_retN {m : Option R} {f : R → List D} {bs : R → List (Addr × List D)} (h : PN X ρ e m f) (hf : ∀ r, fr r = .rn (f r) (bs r) := by exact fun _ => rfl) (hl : ∀ r, LentAt ρ (bs r) := by exact fun _ => lentAt_nil) : SR X ρ [.Return (some e) pos] m fr := .mk fun _ E => sv_one (s1_retN h hf hl)
theorem sr_retO {f : R → List D} {bs : R → List (Addr × List D)} {z : R} (n : Nm X.N X.env.scope i x) (hρ : ρ[i]? = some (.own (f z))) (hf : fr z = .rn (f z) (bs z) := by rfl) (hl : LentAt ρ (bs z) := by exact lentAt_nil) : SR X ρ [.Return (some (.Name x pos')) pos] (some z) fr := .mk fun _ E => sv_one (s1_retO hρ n.hN n.hv hf hl n.hd n.hcd)
theorem sr_ifret {mc : Option Bool} {mA mB : Option R} (hc : PTe X ρ c mc) (hA : SR X ρ body mA fr) (hB : SR X ρ rest mB fr) : SR X ρ (.If c body [] pos :: rest) (mc.bind fun k => if k then mA else mB) fr := .mk fun _ E2 =>
  sv_eq (sv_cons (E1 := fun _ : Unit => ρ) (s1_if hc (hA _ _) (sv_nil (s := ()) rfl)) fun _ => hB _ E2) (by
    cases mc with
    | none => rfl
    | some k => cases k with
      | true => show sq (mA.bind _) _ = mA.bind _; cases mA <;> rfl
      | false => rfl)
theorem sr_if {mc : Option Bool} {mA mB : Option R} (hc : PTe X ρ c mc) (hA : SR X ρ body mA fr) (hB : SR X ρ els mB fr) : SR X ρ [.If c body els pos] (mc.bind fun k => if k then mA else mB) fr := .mk fun _ E2 =>
  sv_eq (sv_one (s1_if hc (hA _ E2) (hB _ E2))) (by
    cases mc with
    | none => rfl
    | some k => cases k <;> rfl)
/-- a statement that may return, then the rest -/
def thenR (m : Option (Sum S R)) (k : S → Option R) : Option R := match m with
  | none => none
  | some (.inl s) => k s
  | some (.inr r) => some r
theorem sr_sv {m1 : Option (Sum S R)} {m2 : S → Option R} (h1 : S1 X ρ st m1 E fr) (h2 : ∀ s, SR X (E s) rest (m2 s) fr) : SR X ρ (st :: rest) (thenR m1 m2) fr := .mk fun _ E2 =>
  sv_eq (sv_cons h1 fun s => h2 s _ E2) (by
    cases m1 with
    | none => rfl
    | some o => cases o <;> rfl)
/-! either -/
theorem sv_n {m : Option S} (h : SN X ρ rest m E) : SV X ρ rest (m.bind fun s => some (.inl s)) E fr := h _ fr
theorem sv_r {m : Option R} (h : SR X ρ rest m fr) : SV X ρ rest (m.bind fun r => some (.inr r)) E fr := h _ E
theorem sv_c {m1 : Option S} {m2 : S → Option (Sum S' R)} (h1 : N1 X ρ st m1 E) (h2 : ∀ s, SV X (E s) rest (m2 s) E' fr) : SV X ρ (st :: rest) (m1.bind m2) E' fr :=
  sv_eq (sv_cons (h1 _ fr) h2) (by cases m1 <;> rfl)
theorem sv_w (is : List Nat) (ρ' : Rho) {m : Option (Sum S R)} (e : wipeR ρ is = ρ') (h : SV X ρ' rest m E fr) : SV X ρ rest m E fr := by
  subst e
  induction is with
  | nil => exact h
  | cons i is ih => exact ih (sv_forget i h)
theorem sv_ifret {mc : Option Bool} {mA : Option R} {mB : Option (Sum S R)} (hc : PTe X ρ c mc) (hA : SR X ρ body mA fr) (hB : SV X ρ rest mB E fr) : SV X ρ (.If c body [] pos :: rest) (mc.bind fun k => if k then mA.bind fun r => some (.inr r) else mB) E fr :=
  sv_eq (sv_cons (E1 := fun _ : Unit => ρ) (s1_if hc (hA _ _) (sv_nil (s := ()) rfl)) fun _ => hB) (by
    cases mc with
    | none => rfl
    | some k => cases k with
      | true => show sq (mA.bind _) _ = mA.bind _; cases mA <;> rfl
      | false => rfl)
/-! simple statements -/
theorem n1_set {m : Option α} {f : α → D} (n : Nm X.N X.env.scope i x) (h : PV X ρ e m (aD f)) (hN : X.N.Nodup) (hx : Loc X.env.scope x) (hs : swapsWith e (some (.Name x pos')) pos.line X.env = pure false := by rfl) (hf : X.fn x = true ∨ X.env.scope.names.lookup x = some .local := by first | exact .inl rfl | exact .inr rfl | assumption) :
    N1 X ρ (.Assign [.Name x pos'] e pos) m (fun z => ρ.set i (.val (f z))) := .mk fun _ fr => s1_set h hN n.hN hx hs hf
theorem n1_setN {m : Option α} {f : α → List D} (n : Nm X.N X.env.scope i x) (h : PN X ρ e m f) (hl : i < ρ.length) (hN : X.N.Nodup) (hx : Loc X.env.scope x) (hs : swapsWith e (some (.Name x pos')) pos.line X.env = pure false := by rfl) (hf : X.fn x = true ∨ X.env.scope.names.lookup x = some .local := by first | exact .inl rfl | exact .inr rfl | assumption) :
    N1 X ρ (.Assign [.Name x pos'] e pos) m (fun z => ρ.set i (.own (f z))) := .mk fun _ fr => s1_setN h hl hN n.hN hx hs hf
theorem n1_tup {m : Option α} {f : α → D} {g : TG} {u : α → Rho → Rho} {vs : List Nat} (h : PV X ρ e m (aD f)) (hg : PG X tg g) (gv : GV X.K g f u vs) (hs : swapsWithSole [tg] e pos.line X.env = pure false := by rfl) (hw : swappedStores [tg] e X.env = pure none := by rfl) (h1 : (assignEach [tg] X.env).map (·.2) = [assign tg X.env] := by rfl) :
    N1 X ρ (.Assign [tg] e pos) m (fun z => u z ρ) := .mk fun _ fr => s1_tup h hg gv hs hw h1
theorem n1_aug {op : Operator} {ip : Int → Int → Int} {m : Option Int} {z0 : Int} (n : Nm X.N X.env.scope i x) (hip : PIp X op (ipI ip)) (h : PV X ρ e m (aD dI)) (hρ : ρ[i]? = some (.val (dI z0))) (hN : X.N.Nodup) (hx : Loc X.env.scope x) (hf : X.fn x = true ∨ X.env.scope.names.lookup x = some .local := by first | exact .inl rfl | exact .inr rfl | assumption) :
    N1 X ρ (.AugAssign (.Name x pos') op e pos) (m.bind fun z => some (ip z0 z)) (fun z => ρ.set i (.val (dI z))) := .mk fun _ fr => s1_aug hip h hρ hN n.hN hx hf
end
end VS
set_option Elab.async false
set_option linter.all false
set_option maxRecDepth 100000
namespace VS
open PySem PySem.Spec PyProof.Rows L2

/-! ### the feed: a list that is handed on and changed -/
structure Fd where
  cells : List Int
  at_ : Int
  big : Int
  seed : Int
def encF (fd : Fd) : List D := [dL dI fd.cells, dI fd.at_, dI fd.big, dI fd.seed]
/-- only the list at p was changed, and new objects came -/
structure Fp (p : Addr) (F H F' H' : Hp) : Prop where
  ff : Same F F'
  sub : Same F' H'
  hh : ∀ b o, b ≠ p → H b = some o → H' b = some o
  nw : ∀ b o, F' b = some o → F b = some o ∨ H b = none
theorem Fp.of_ext {p : Addr} {F H F' H' : Hp} (x : Ext F H F' H') : Fp p F H F' H' := ⟨x.ff, x.fh, fun b o _ e => x.hh b o e, x.nw⟩
section
variable {K : PySem.W.Frag} {ρ : Rho} {σ : L2.St} {F H F' H' : Hp} {i : Nat} {p : Addr}
theorem Rel.swap {ds ds' : List D} {vs1 : List V} (R : Rel K ρ σ F H) (s' : Sl) (hs : (ρ[i]? = some (.own ds) ∧ s' = .own ds') ∨ (ρ[i]? = some (.brw p ds) ∧ s' = .brw p ds')) (e : σ[i]? = some (some (.ref p))) (c : Fp p F H F' H') (hp : H' p = some (.lst vs1)) (hf : F' p = none) (hd : DpAll K F' vs1 ds') :
    Rel K (ρ.set i s') σ F' H' ∧ Fr ρ σ F H (ρ.set i s') σ F' H' := by
  have ho : ∃ s, ρ[i]? = some s ∧ s.isOwn = true := by
    rcases hs with ⟨h, _⟩ | ⟨h, _⟩
    · exact ⟨_, h, rfl⟩
    · exact ⟨_, h, rfl⟩
  obtain ⟨s0, hi, os0⟩ := ho
  have hl : i < ρ.length := (List.getElem?_eq_some_iff.mp hi).1
  have oi : ownAt ρ σ i p := ⟨e, _, hi, os0⟩
  obtain ⟨vs0, hp0, hf0⟩ := R.own_lst ⟨i, oi⟩
  have own' : ∀ {j b}, ownAt (ρ.set i s') σ j b → ownAt ρ σ j b := fun {j b} ⟨e', s, es, ow⟩ => by
    by_cases hj : i = j
    · subst hj
      exact ⟨e', _, hi, os0⟩
    · rw [List.getElem?_set_ne hj] at es
      exact ⟨e', s, es, ow⟩
  have ne : ∀ {j b}, ownAt ρ σ j b → i ≠ j → b ≠ p := fun {j b} h hj hb => by
    subst hb
    exact hj (R.dis _ _ _ oi h)
  have kept : ∀ {b vs}, H b = some (.lst vs) → F b = none → b ≠ p → H' b = some (.lst vs) ∧ F' b = none := fun {b vs} h1 h2 hb => by
    refine ⟨c.hh b _ hb h1, ?_⟩
    cases q : F' b with
    | none => rfl
    | some o =>
      rcases c.nw b o q with z | z
      · rw [h2] at z; cases z
      · rw [h1] at z; cases z
  refine ⟨⟨c.sub, fun j s es => ?_, fun j k b h1 h2 => R.dis j k b (own' h1) (own' h2), by rw [List.length_set, R.len]⟩, ⟨c.ff, fun b o q n => ?_, fun b o q => ?_, fun b ⟨j, h⟩ => .inl ⟨j, own' h⟩, fun b q => ?_⟩⟩
  · by_cases hj : i = j
    · subst hj
      rw [List.getElem?_set_self hl] at es
      cases es
      rcases hs with ⟨_, rfl⟩ | ⟨_, rfl⟩
      · exact ⟨p, vs1, e, hp, hf, hd⟩
      · exact ⟨vs1, e, hp, hf, hd⟩
    · rw [List.getElem?_set_ne hj] at es
      have q := R.at_ j s es
      cases s with
      | un => trivial
      | val d =>
        obtain ⟨v, e1, d1⟩ := q
        exact ⟨v, e1, Dp.mono c.ff d1⟩
      | own es' =>
        obtain ⟨p', vs', e1, h1, h2, h3⟩ := q
        obtain ⟨k1, k2⟩ := kept h1 h2 (ne ⟨e1, _, es, rfl⟩ hj)
        exact ⟨p', vs', e1, k1, k2, DpAll.mono c.ff h3⟩
      | brw p' es' =>
        obtain ⟨vs', e1, h1, h2, h3⟩ := q
        obtain ⟨k1, k2⟩ := kept h1 h2 (ne ⟨e1, _, es, rfl⟩ hj)
        exact ⟨vs', e1, k1, k2, DpAll.mono c.ff h3⟩
  · exact c.hh b o (fun z => by subst z; exact n ⟨i, oi⟩) q
  · rcases c.nw b o q with z | z
    · exact .inl z
    · exact .inr (.inl z)
  · by_cases hb : b = p
    · subst hb; rw [hp] at q; cases q
    · cases q' : H b with
      | none => rfl
      | some o => rw [c.hh b o hb q'] at q; cases q
end
section
variable {α β γ δ : Type}
/-- the first argument is the feed -/
def spF (K : PySem.W.Frag) (n : Nat) (enc : α → List D) (m : Fd → α → Option (β × Fd)) (f : β → D) : Sp := fun vs H Q _ => ∃ (F : Hp) (p : Addr) (ws vs0 : List V) (fd : Fd) (a : α) (r : β × Fd), vs = .ref p :: ws ∧ ws.length + 1 = n ∧ Same F H ∧ H p = some (.lst vs0) ∧ F p = none ∧ DpAll K F vs0 (encF fd) ∧ DpAll K F ws (enc a) ∧ m fd a = some r ∧
  ∀ v F' H' vs1, Fp p F H F' H' → H' p = some (.lst vs1) → F' p = none → DpAll K F' vs1 (encF r.2) → Dp K F' v (f r.1) → Q v H'
def spFN (K : PySem.W.Frag) (n : Nat) (enc : α → List D) (m : Fd → α → Option (β × Fd)) (f : β → List D) : Sp := fun vs H Q _ => ∃ (F : Hp) (p : Addr) (ws vs0 : List V) (fd : Fd) (a : α) (r : β × Fd), vs = .ref p :: ws ∧ ws.length + 1 = n ∧ Same F H ∧ H p = some (.lst vs0) ∧ F p = none ∧ DpAll K F vs0 (encF fd) ∧ DpAll K F ws (enc a) ∧ m fd a = some r ∧
  ∀ l zs F' H' vs1, Fp p F H F' H' → H' p = some (.lst vs1) → F' p = none → DpAll K F' vs1 (encF r.2) → H l = none → H' l = some (.lst zs) → F' l = none → l ≠ p → DpAll K F' zs (f r.1) → Q (.ref l) H'
variable {X : Cx} {ρ : Rho} {E : Fd → Rho} {a b c d e tg iter : Expr} {es : List Expr} {st : Stmt} {rest body els : List Stmt} {pos pos' : Pos} {j i : Nat} {x : Str} {fd0 : Fd}
/-- the feed stands at slot j: an own list, or lent -/
def FeedAt (E : Fd → Rho) (j : Nat) : Prop := (∀ fd, (E fd)[j]? = some (.own (encF fd)) ∧ ∀ fd', E fd' = (E fd).set j (.own (encF fd'))) ∨ ∃ p, ∀ fd, (E fd)[j]? = some (.brw p (encF fd)) ∧ ∀ fd', E fd' = (E fd).set j (.brw p (encF fd'))
theorem FeedAt.slot {fd : Fd} {σ : L2.St} {F H : Hp} (hF : FeedAt E j) (R : Rel X.K (E fd) σ F H) : ∃ p vs, σ[j]? = some (some (.ref p)) ∧ H p = some (.lst vs) ∧ F p = none ∧ DpAll X.K F vs (encF fd) := by
  rcases hF with h | ⟨p, h⟩
  · exact R.at_ j _ (h fd).1
  · obtain ⟨vs, e1, e2, e3, e4⟩ := R.at_ j _ (h fd).1
    exact ⟨p, vs, e1, e2, e3, e4⟩
theorem FeedAt.swap {fd fd' : Fd} {σ : L2.St} {F H F' H' : Hp} {p : Addr} {vs1 : List V} (hF : FeedAt E j) (R : Rel X.K (E fd) σ F H) (e : σ[j]? = some (some (.ref p))) (c : Fp p F H F' H') (hp : H' p = some (.lst vs1)) (hf : F' p = none) (hd : DpAll X.K F' vs1 (encF fd')) :
    Rel X.K (E fd') σ F' H' ∧ Fr (E fd) σ F H (E fd') σ F' H' := by
  rcases hF with h | ⟨p', h⟩
  · rw [(h fd).2 fd']
    exact R.swap _ (.inl ⟨(h fd).1, rfl⟩) e c hp hf hd
  · obtain ⟨vs, e1, _⟩ := R.at_ j _ (h fd).1
    rw [e] at e1; cases e1
    rw [(h fd).2 fd']
    exact R.swap _ (.inr ⟨(h fd).1, rfl⟩) e c hp hf hd
/-! no effect -/
theorem ev_pv {f : α → D} {m : Option α} (h : PV X ρ e m (aD f)) (h0 : E fd0 = ρ) : EV X ρ E e (m.bind fun z => some (z, fd0)) f := .mk fun r er σ F H R Q q => by
  obtain ⟨z, ez, er⟩ := bind_some er
  cases er
  exact h z ez σ F H R Q fun v F' H' x d => q v F' H' (by rw [h0]; exact R.ext x) (by rw [h0]; exact Fr.of_ext x) d
theorem en_pn {f : α → List D} {m : Option α} (h : PN X ρ e m f) (h0 : E fd0 = ρ) : EN X ρ E e (m.bind fun z => some (z, fd0)) f := .mk fun r er σ F H R Q q => by
  obtain ⟨z, ez, er⟩ := bind_some er
  cases er
  refine h z ez σ F H R Q fun p vs F' H' x hn hp hf d => q p vs F' H' (by rw [h0]; exact R.ext x) (by rw [h0]; exact Fr.of_ext x) hn hp hf (fun z => ?_) d
  rw [h0] at z
  obtain ⟨ws, hw, _⟩ := R.own_lst z
  rw [hn] at hw; cases hw
theorem ev_en {f : α → D} {m : Option (List α × Fd)} (h : EN X ρ E e m (fun xs => xs.map f)) : EV X ρ E e m (dL f) := .mk fun r er σ F H R Q q =>
  h r er σ F H R Q fun p vs F' H' R' f' hn hp hf no d => by
    have sF := same_upd hf (.lst vs)
    refine q _ (upd F' p (.lst vs)) H' ⟨fun b o w => ?_, fun i s es => ?_, R'.dis, R'.len⟩ ⟨f'.ff.trans sF, f'.hh, fun b o w => ?_, f'.ow, f'.there⟩ (Dp.lst (SqL.of upd_same) (DpAll.mono sF d))
    · by_cases hb : b = p
      · subst hb; rw [upd_same] at w; rw [← w]; exact hp
      · rw [upd_ne hb] at w; exact R'.sub b o w
    · have w := R'.at_ i s es
      have ne : ∀ {b}, ownAt (E r.2) σ i b → b ≠ p := fun {b} ob hb => by subst hb; exact no ⟨i, ob⟩
      cases s with
      | un => trivial
      | val d' =>
        obtain ⟨v, e1, d1⟩ := w
        exact ⟨v, e1, Dp.mono sF d1⟩
      | own es' =>
        obtain ⟨p', vs', e1, h1, h2, h3⟩ := w
        exact ⟨p', vs', e1, h1, by rw [upd_ne (ne ⟨e1, _, es, rfl⟩)]; exact h2, DpAll.mono sF h3⟩
      | brw p' es' =>
        obtain ⟨vs', e1, h1, h2, h3⟩ := w
        exact ⟨vs', e1, h1, by rw [upd_ne (ne ⟨e1, _, es, rfl⟩)]; exact h2, DpAll.mono sF h3⟩
    · by_cases hb : b = p
      · subst hb; exact .inr (.inl hn)
      · rw [upd_ne hb] at w; exact f'.nw b o w
theorem et_pt {m : Option Bool} (h : PTe X ρ e m) (h0 : E fd0 = ρ) : ETe X ρ E e (m.bind fun z => some (z, fd0)) := .mk fun r er σ F H R Q q => by
  obtain ⟨z, ez, er⟩ := bind_some er
  cases er
  exact h z ez σ F H R Q fun F' H' x => q F' H' (by rw [h0]; exact R.ext x) (by rw [h0]; exact Fr.of_ext x)
theorem ear_nil (h0 : E fd0 = ρ) : EAr X ρ E [] (some ((), fd0)) (fun _ => []) := .mk fun r er σ F H R Q q => by
  cases er
  exact PA.to pa_nil (q [] F H (by rw [h0]; exact R) (by rw [h0]; exact Fr.of_ext (Ext.refl R.sub)) .nil)
theorem ear_one {f : α → D} {m : Option (α × Fd)} (h : EV X ρ E a m f) (hs : starEach [a] X.env = (false, eval a X.env) :: starEach [] X.env := by rfl) : EAr X ρ E [a] m (fun z => [f z]) := .mk fun r er σ F H R Q q =>
  PA.to (pa_cons pE pa_nil hs) (h r er σ F H R _ fun v F' H' R' f' d => q [v] F' H' R' f' (.cons d .nil))
theorem ear_cons {f : α → D} {fs : β → List D} {ma : Option (α × Fd)} {mb : Fd → Option (β × Fd)} (ha : EV X ρ E a ma f) (hb : ∀ s, EAr X (E s) E es (mb s) fs) (hs : starEach (a :: es) X.env = (false, eval a X.env) :: starEach es X.env := by rfl) :
    EAr X ρ E (a :: es) (ma.bind fun x => (mb x.2).bind fun y => some ((x.1, y.1), y.2)) (fun z => f z.1 :: fs z.2) := .mk fun r er σ F H R Q q => by
  obtain ⟨x, ex, er⟩ := bind_some er
  obtain ⟨y, ey, er⟩ := bind_some er
  cases er
  exact PA.to (pa_cons pE pA hs) (ha x ex σ F H R _ fun v F1 H1 R1 f1 d1 => hb x.2 y ey σ F1 H1 R1 _ fun vs F2 H2 R2 f2 d2 => q (v :: vs) F2 H2 R2 (f1.trans f2) (.cons (Dp.mono f2.ff d1) d2))
/-! calls with the feed -/
theorem ev_callF {k n : Nat} {f : Addr} {fdd : FuncData} {ps : List Str} {enc : α → List D} {m : Fd → α → Option (β × Fd)} {fr : β → D} {ma : Option (α × Fd)} {y : Str} {p p1 : Pos} (G : FnOk X.prog X.w X.K X.mg X.base CX0 k f fdd ps (spF X.K n enc m fr)) (hr : Room k X.A) (hg : Gl X x) (hm : X.mg x = some (.ref f)) (hk : PySem.W.keepIn X.K (.ref f) = true) (hb : Binds X.K fdd ps [])
    (hF : FeedAt E j) (h0 : E fd0 = ρ) (ny : Nm X.N X.env.scope j y) (ha : EAr X ρ E es ma enc) (hn : ∀ a, (enc a).length + 1 = n) (hdb : (x == ("__debug__" : Str)) = false := by decide) (he : starEach (.Name y p1 :: es) X.env = (false, eval (.Name y p1) X.env) :: starEach es X.env := by rfl) (hpl : (backTo pos (starEach es X.env)).any (·.1) = false := by rfl) :
    EV X ρ E (.Call (.Name x p) (.Name y p1 :: es) [] pos) (ma.bind fun r => m r.2 r.1) fr := .mk fun z ez σ F H R Q q => by
  obtain ⟨r, er, ez⟩ := bind_some ez
  have R0 : Rel X.K (E fd0) σ F H := by rw [h0]; exact R
  obtain ⟨p0, vs0, e0, _⟩ := hF.slot R0
  refine PE.to (pe_call G hr hg hm hk hb .nil pass0 (pa_cons (pe_var ny.hN ny.hv ny.hd ny.hcd) pA he) hdb he hpl) ⟨.ref p0, e0, ha r er σ F H R _ fun ws F1 H1 R1 f1 d1 => ?_⟩
  obtain ⟨p2, vs2, e2, hp2, hf2, d2⟩ := hF.slot R1
  rw [e0] at e2; cases e2
  refine ⟨F1, p0, ws, vs2, r.2, r.1, z, by rw [List.append_nil], by rw [DpAll.length d1]; exact hn _, R1.sub, hp2, hf2, d2, d1, ez, fun v F' H' vs1 c hp hf dd dv => ?_⟩
  obtain ⟨R', f'⟩ := hF.swap R1 e0 c hp hf dd
  exact q v F' H' R' (f1.trans f') dv
theorem en_callF {k n : Nat} {f : Addr} {fdd : FuncData} {ps : List Str} {enc : α → List D} {m : Fd → α → Option (β × Fd)} {fr : β → List D} {ma : Option (α × Fd)} {y : Str} {p p1 : Pos} (G : FnOk X.prog X.w X.K X.mg X.base CX0 k f fdd ps (spFN X.K n enc m fr)) (hr : Room k X.A) (hg : Gl X x) (hm : X.mg x = some (.ref f)) (hk : PySem.W.keepIn X.K (.ref f) = true) (hb : Binds X.K fdd ps [])
    (hF : FeedAt E j) (h0 : E fd0 = ρ) (ny : Nm X.N X.env.scope j y) (ha : EAr X ρ E es ma enc) (hn : ∀ a, (enc a).length + 1 = n) (hdb : (x == ("__debug__" : Str)) = false := by decide) (he : starEach (.Name y p1 :: es) X.env = (false, eval (.Name y p1) X.env) :: starEach es X.env := by rfl) (hpl : (backTo pos (starEach es X.env)).any (·.1) = false := by rfl) :
    EN X ρ E (.Call (.Name x p) (.Name y p1 :: es) [] pos) (ma.bind fun r => m r.2 r.1) fr := .mk fun z ez σ F H R Q q => by
  obtain ⟨r, er, ez⟩ := bind_some ez
  have R0 : Rel X.K (E fd0) σ F H := by rw [h0]; exact R
  obtain ⟨p0, vs0, e0, _⟩ := hF.slot R0
  refine PE.to (pe_call G hr hg hm hk hb .nil pass0 (pa_cons (pe_var ny.hN ny.hv ny.hd ny.hcd) pA he) hdb he hpl) ⟨.ref p0, e0, ha r er σ F H R _ fun ws F1 H1 R1 f1 d1 => ?_⟩
  obtain ⟨p2, vs2, e2, hp2, hf2, d2⟩ := hF.slot R1
  rw [e0] at e2; cases e2
  refine ⟨F1, p0, ws, vs2, r.2, r.1, z, by rw [List.append_nil], by rw [DpAll.length d1]; exact hn _, R1.sub, hp2, hf2, d2, d1, ez, fun l zs F' H' vs1 c hp hf dd hln hl hlf hlp dv => ?_⟩
  obtain ⟨R', f'⟩ := hF.swap R1 e0 c hp hf dd
  refine q l zs F' H' R' (f1.trans f') (f1.there l hln) hl hlf (fun o => ?_) dv
  rcases f'.ow l o with w | w
  · obtain ⟨ws', hw, _⟩ := R1.own_lst w
    rw [hln] at hw; cases hw
  · -- new in E z.2 : it is not; slots are the same
    obtain ⟨i', e', s', es', ow'⟩ := o
    by_cases hi : i' = j
    · subst hi
      rw [e0] at e'; cases e'
      exact hlp rfl
    · have : ownAt (E r.2) σ i' l := ⟨e', s', by
        rcases hF with h | ⟨_, h⟩
        · have := (h r.2).2 z.2
          rw [this, List.getElem?_set_ne (Ne.symm hi)] at es'
          exact es'
        · have := (h r.2).2 z.2
          rw [this, List.getElem?_set_ne (Ne.symm hi)] at es'
          exact es', ow'⟩
      obtain ⟨ws', hw, _⟩ := R1.own_lst ⟨i', this⟩
      rw [hln] at hw; cases hw
/-! operators -/
theorem ev_op {op : Operator} {f1 : α → D} {f2 : β → D} {g : α → β → Option γ} {f3 : γ → D} {ma : Option (α × Fd)} {mb : Fd → Option (β × Fd)} (ho : OpV X (binaryOp op) (aD f1) (aD f2) g f3) (ha : EV X ρ E a ma f1) (hb : ∀ s, EV X (E s) E b (mb s) f2) :
    EV X ρ E (.BinOp a op b pos) (ma.bind fun x => (mb x.2).bind fun y => (g x.1 y.1).bind fun z => some (z, y.2)) f3 := .mk fun r er σ F H R Q q => by
  obtain ⟨x, ex, er⟩ := bind_some er
  obtain ⟨y, ey, er⟩ := bind_some er
  obtain ⟨z, ez, er⟩ := bind_some er
  cases er
  refine PE.to (pe_op opR_at pE pE) ?_
  exact ha x ex σ F H R _ fun v F1 H1 R1 g1 d1 => hb x.2 y ey σ F1 H1 R1 _ fun u F2 H2 R2 g2 d2 =>
    ho x.1 y.1 z ez F2 H2 v u Q R2.sub (Dp.mono g2.ff d1) d2 fun w F' H' x3 d3 => q w F' H' (R2.ext x3) (g1.trans (g2.trans (Fr.of_ext x3))) d3
theorem ev_neg {ma : Option (Int × Fd)} (ha : EV X ρ E a ma dI) : EV X ρ E (.UnaryOp .USub a pos) (ma.bind fun x => some (-x.1, x.2)) dI := .mk fun r er σ F H R Q q => by
  obtain ⟨x, ex, er⟩ := bind_some er
  cases er
  exact PE.to (pe_un un_neg pE) (ha x ex σ F H R _ fun v F1 H1 R1 g1 d1 => ⟨x.1, dp_int d1, q _ F1 H1 R1 g1 (.int _)⟩)
theorem ev_cmp {op : CmpOp} {f1 : α → D} {f2 : β → D} {g : α → β → Option γ} {f3 : γ → D} {ma : Option (α × Fd)} {mb : Fd → Option (β × Fd)} (ho : OpV X (compareOp op) (aD f1) (aD f2) g f3) (ha : EV X ρ E a ma f1) (hb : ∀ s, EV X (E s) E b (mb s) f2) (hm : behindInMarks op b = false) :
    EV X ρ E (.Compare a [op] [b] pos) (ma.bind fun x => (mb x.2).bind fun y => (g x.1 y.1).bind fun z => some (z, y.2)) f3 := .mk fun r er σ F H R Q q => by
  obtain ⟨x, ex, er⟩ := bind_some er
  obtain ⟨y, ey, er⟩ := bind_some er
  obtain ⟨z, ez, er⟩ := bind_some er
  cases er
  refine PE.to (pe_cmpR opR_at pE pE hm) ?_
  exact ha x ex σ F H R _ fun v F1 H1 R1 g1 d1 => hb x.2 y ey σ F1 H1 R1 _ fun u F2 H2 R2 g2 d2 =>
    ho x.1 y.1 z ez F2 H2 v u Q R2.sub (Dp.mono g2.ff d1) d2 fun w F' H' x3 d3 => q w F' H' (R2.ext x3) (g1.trans (g2.trans (Fr.of_ext x3))) d3
theorem et_cmp {op : CmpOp} {f1 : α → D} {f2 : β → D} {g : α → β → Option Bool} {ma : Option (α × Fd)} {mb : Fd → Option (β × Fd)} (ho : OpV X (compareOp op) (aD f1) (aD f2) g dB) (ha : EV X ρ E a ma f1) (hb : ∀ s, EV X (E s) E b (mb s) f2) (hm : behindInMarks op b = false) :
    ETe X ρ E (.Compare a [op] [b] pos) (ma.bind fun x => (mb x.2).bind fun y => (g x.1 y.1).bind fun z => some (z, y.2)) := .mk fun r er σ F H R Q q => by
  obtain ⟨x, ex, er⟩ := bind_some er
  obtain ⟨y, ey, er⟩ := bind_some er
  obtain ⟨z, ez, er⟩ := bind_some er
  cases er
  refine PT.to (pt_cmpR opR_at pE pE hm) ?_
  exact ha x ex σ F H R _ fun v F1 H1 R1 g1 d1 => hb x.2 y ey σ F1 H1 R1 _ fun u F2 H2 R2 g2 d2 =>
    ho x.1 y.1 z ez F2 H2 v u _ R2.sub (Dp.mono g2.ff d1) d2 fun w F' H' x3 d3 => ⟨z, dp_bl d3, q F' H' (R2.ext x3) (g1.trans (g2.trans (Fr.of_ext x3)))⟩
theorem et_v {m : Option (Bool × Fd)} (h : EV X ρ E a m dB) (he : ∀ whole, isTrue a X.env whole = (do let v ← whole; standAt a.pos; holding [v] (truthy v)) := by intro _; rfl) : ETe X ρ E a m := .mk fun r er σ F H R Q q =>
  PT.to (pt_val pE he) (h r er σ F H R _ fun v F1 H1 R1 g1 d1 => ⟨r.1, dp_bl d1, q F1 H1 R1 g1⟩)
theorem et_not {m : Option (Bool × Fd)} (h : ETe X ρ E a m) : ETe X ρ E (.UnaryOp .Not a pos) (m.bind fun x => some (!x.1, x.2)) := .mk fun r er σ F H R Q q => by
  obtain ⟨x, ex, er⟩ := bind_some er
  cases er
  exact PT.to (pt_not pT) (h x ex σ F H R _ fun F1 H1 R1 g1 => q F1 H1 R1 g1)
theorem EWe.et {m : Option (Bool × Fd)} (h : EWe X ρ E a m) : ETe X ρ E a m := .mk fun r er σ F H R Q q => PT.to pW.pt (h r er σ F H R Q q)
theorem ew_a1 {m : Option (Bool × Fd)} (h : ETe X ρ E a m) : EWe X ρ E (.BoolOp .And [a] pos) m := .mk fun r er σ F H R Q q => PW.to (pw_and1 pT) (h r er σ F H R Q q)
theorem ew_o1 {m : Option (Bool × Fd)} (h : ETe X ρ E a m) : EWe X ρ E (.BoolOp .Or [a] pos) m := .mk fun r er σ F H R Q q => PW.to (pw_or1 pT) (h r er σ F H R Q q)
theorem ew_a {ma : Option (Bool × Fd)} {mb : Fd → Option (Bool × Fd)} {rest : List Expr} (ha : ETe X ρ E a ma) (hb : ∀ s, EWe X (E s) E (.BoolOp .And (b :: rest) pos) (mb s)) : EWe X ρ E (.BoolOp .And (a :: b :: rest) pos) (ma.bind fun x => if x.1 then mb x.2 else some (false, x.2)) := .mk fun r er σ F H R Q q => by
  obtain ⟨⟨x, s⟩, ex, er⟩ := bind_some er
  refine PW.to (pw_and pT pW) (ha _ ex σ F H R _ fun F1 H1 R1 g1 => ?_)
  cases x with
  | true => exact iteT (hb s r er σ F1 H1 R1 _ fun F2 H2 R2 g2 => q F2 H2 R2 (g1.trans g2))
  | false => cases er; exact iteF (q F1 H1 R1 g1)
theorem ew_o {ma : Option (Bool × Fd)} {mb : Fd → Option (Bool × Fd)} {rest : List Expr} (ha : ETe X ρ E a ma) (hb : ∀ s, EWe X (E s) E (.BoolOp .Or (b :: rest) pos) (mb s)) : EWe X ρ E (.BoolOp .Or (a :: b :: rest) pos) (ma.bind fun x => if x.1 then some (true, x.2) else mb x.2) := .mk fun r er σ F H R Q q => by
  obtain ⟨⟨x, s⟩, ex, er⟩ := bind_some er
  refine PW.to (pw_or pT pW) (ha _ ex σ F H R _ fun F1 H1 R1 g1 => ?_)
  cases x with
  | true => cases er; exact iteT (q F1 H1 R1 g1)
  | false => exact iteF (hb s r er σ F1 H1 R1 _ fun F2 H2 R2 g2 => q F2 H2 R2 (g1.trans g2))
theorem ev_if {mc : Option (Bool × Fd)} {ma mb : Fd → Option (α × Fd)} {f : α → D} (hc : ETe X ρ E c mc) (ha : ∀ s, EV X (E s) E a (ma s) f) (hb : ∀ s, EV X (E s) E b (mb s) f) : EV X ρ E (.IfExp c a b pos) (mc.bind fun k => if k.1 then ma k.2 else mb k.2) f := .mk fun r er σ F H R Q q => by
  obtain ⟨⟨x, s⟩, ex, er⟩ := bind_some er
  refine PE.to (pe_ifExp pT pE pE) (hc _ ex σ F H R _ fun F1 H1 R1 g1 => ?_)
  cases x with
  | true => exact iteT (ha s r er σ F1 H1 R1 _ fun v F2 H2 R2 g2 d2 => q v F2 H2 R2 (g1.trans g2) d2)
  | false => exact iteF (hb s r er σ F1 H1 R1 _ fun v F2 H2 R2 g2 d2 => q v F2 H2 R2 (g1.trans g2) d2)
/-! items, tuples, calls without the feed whose arguments have effects -/
theorem ev_ix {f : β → D} {f1 : List β → D} {ma : Option (List β × Fd)} {mi : Fd → Option (Int × Fd)} (ha : EV X ρ E a ma f1) (hb : ∀ s, EV X (E s) E b (mi s) dI) (hs : PlainIx b) (h : ∀ xs, (AD.d (f1 xs)).seq? = some (xs.map f) := by intro _; rfl) :
    EV X ρ E (.Subscript a b pos) (ma.bind fun xs => (mi xs.2).bind fun i => (atI xs.1 i.1).bind fun z => some (z, i.2)) f := .mk fun r er σ F H R Q q => by
  obtain ⟨x, ex, er⟩ := bind_some er
  obtain ⟨i, ei, er⟩ := bind_some er
  obtain ⟨z, ez, er⟩ := bind_some er
  cases er
  refine PE.to (pe_ix ix_seq pE pE hs) (ha x ex σ F H R _ fun v F1 H1 R1 g1 d1 => hb x.2 i ei σ F1 H1 R1 _ fun u F2 H2 R2 g2 d2 => ?_)
  have d1' : (AD.d (f1 x.1)).ok X.K F2 H2 v := Dp.mono g2.ff d1
  obtain ⟨p, vs, rfl, hs, hd⟩ := d1'.seq R2.sub (h x.1)
  obtain ⟨w, hw, hdw⟩ := DpAll.atI hd (atI_map (f := f) ez)
  have fin := q w F2 H2 R2 (g1.trans g2) hdw
  rcases hs with hs | hs
  · exact .inl ⟨p, vs, i.1, w, rfl, dp_int d2, hs, hw, fin⟩
  · exact .inr (.inl ⟨p, vs, i.1, w, rfl, dp_int d2, hs, hw, fin⟩)
theorem ev_tup {x1} {m : Option (α × Fd)} {fs : α → List D} {g : α → D} (h : EAr X ρ E es m fs) (hg : ∀ x, g x = .tuple (fs x)) (hn : ∀ x, (fs x).length ≤ 1000) : EV X ρ E (.Tuple es x1 pos) m g := .mk fun r er σ F H R Q q => by
  refine PE.to (pe_tup pA) (h r er σ F H R _ fun vs F1 H1 R1 g1 d1 => ?_)
  refine ⟨Nat.le_of_lt (small1000 (by rw [DpAll.length d1]; exact hn r.1)), fun p hp => ?_⟩
  have x2 := Ext.new R1.sub hp (.tup vs)
  refine q _ _ _ (R1.ext x2) (g1.trans (Fr.of_ext x2)) ?_
  rw [hg]
  exact .tup (SqT.of upd_same) (DpAll.mono x2.ff d1)
theorem ev_tup2 {x1} {ma : Option (α × Fd)} {mb : Fd → Option (β × Fd)} {f : α → D} {g : β → D} (ha : EV X ρ E a ma f) (hb : ∀ s, EV X (E s) E b (mb s) g) (hs : starEach [a, b] X.env = (false, eval a X.env) :: starEach [b] X.env := by rfl) (hs2 : starEach [b] X.env = (false, eval b X.env) :: starEach [] X.env := by rfl) :
    EV X ρ E (.Tuple [a, b] x1 pos) (ma.bind fun x => (mb x.2).bind fun y => some ((x.1, y.1), y.2)) (d2 f g) := ev_tup (ear_cons ha (fun s => ear_one (hb s) hs2) hs) (fun _ => rfl) (fun _ => by show 2 ≤ 1000; decide)
theorem ev_tup3 {x1} {ma : Option (α × Fd)} {mb : Fd → Option (β × Fd)} {mc : Fd → Option (γ × Fd)} {f : α → D} {g : β → D} {h : γ → D} (ha : EV X ρ E a ma f) (hb : ∀ s, EV X (E s) E b (mb s) g) (hc : ∀ s, EV X (E s) E c (mc s) h) (hs : starEach [a, b, c] X.env = (false, eval a X.env) :: starEach [b, c] X.env := by rfl) (hs2 : starEach [b, c] X.env = (false, eval b X.env) :: starEach [c] X.env := by rfl) (hs3 : starEach [c] X.env = (false, eval c X.env) :: starEach [] X.env := by rfl) :
    EV X ρ E (.Tuple [a, b, c] x1 pos) (ma.bind fun x => ((mb x.2).bind fun y => (mc y.2).bind fun z => some ((y.1, z.1), z.2)).bind fun w => some ((x.1, w.1), w.2)) (d3 f g h) := ev_tup (ear_cons ha (fun s => ear_cons (hb s) (fun s => ear_one (hc s) hs3) hs2) hs) (fun _ => rfl) (fun _ => by show 3 ≤ 1000; decide)
theorem ev_tup4 {x1} {ma : Option (α × Fd)} {mb : Fd → Option (β × Fd)} {mc : Fd → Option (γ × Fd)} {md : Fd → Option (δ × Fd)} {f : α → D} {g : β → D} {h : γ → D} {k : δ → D} (ha : EV X ρ E a ma f) (hb : ∀ s, EV X (E s) E b (mb s) g) (hc : ∀ s, EV X (E s) E c (mc s) h) (hd : ∀ s, EV X (E s) E d (md s) k)
    (hs : starEach [a, b, c, d] X.env = (false, eval a X.env) :: starEach [b, c, d] X.env := by rfl) (hs2 : starEach [b, c, d] X.env = (false, eval b X.env) :: starEach [c, d] X.env := by rfl) (hs3 : starEach [c, d] X.env = (false, eval c X.env) :: starEach [d] X.env := by rfl) (hs4 : starEach [d] X.env = (false, eval d X.env) :: starEach [] X.env := by rfl) :
    EV X ρ E (.Tuple [a, b, c, d] x1 pos) (ma.bind fun x => ((mb x.2).bind fun y => ((mc y.2).bind fun z => (md z.2).bind fun t => some ((z.1, t.1), t.2)).bind fun t => some ((y.1, t.1), t.2)).bind fun w => some ((x.1, w.1), w.2)) (d4 f g h k) := ev_tup (ear_cons ha (fun s => ear_cons (hb s) (fun s => ear_cons (hc s) (fun s => ear_one (hd s) hs4) hs3) hs2) hs) (fun _ => rfl) (fun _ => by show 4 ≤ 1000; decide)
theorem AdAll.of_dps {K : PySem.W.Frag} {F H : Hp} : ∀ {vs : List V} {ds : List D}, DpAll K F vs ds → AdAll K F H vs (ds.map AD.d)
  | _, _, .nil => trivial
  | _, _, .cons h t => ⟨h, AdAll.of_dps t⟩
theorem ev_callB {id : String} {p : Pos} {fs : α → List AD} {fd : α → List D} {g : α → Option γ} {f3 : γ → D} {m : Option (α × Fd)} (hc : CallV X (.builtin id) fs g f3) (hg : Gl X x) (hm : X.mg x = none) (hv : bootBuiltins x = some (.builtin id)) (ha : EAr X ρ E (e :: es) m fd) (hf : ∀ a, fs a = (fd a).map AD.d := by intro _; rfl) (hn : x ≠ "__name__" := by decide) (hdb : (x == ("__debug__" : Str)) = false := by decide)
    (he : starEach (e :: es) X.env = (false, eval e X.env) :: starEach es X.env := by rfl) (hpl : (backTo pos (starEach es X.env)).any (·.1) = false := by rfl) : EV X ρ E (.Call (.Name x p) (e :: es) [] pos) (m.bind fun r => (g r.1).bind fun z => some (z, r.2)) f3 := .mk fun r er σ F H R Q q => by
  obtain ⟨y, ey, er⟩ := bind_some er
  obtain ⟨z, ez, er⟩ := bind_some er
  cases er
  refine PE.to (pe_callB callR_at hg hm hv pA hn hdb he hpl) (ha y ey σ F H R _ fun vs F1 H1 R1 g1 d1 => hc y.1 z ez F1 H1 vs Q R1.sub ?_ fun v F2 H2 x2 d2 => q v F2 H2 (R1.ext x2) (g1.trans (Fr.of_ext x2)) d2)
  rw [hf]
  exact AdAll.of_dps d1
theorem ev_callTy {T : String} {p : Pos} {fs : α → List AD} {fd : α → List D} {g : α → Option γ} {f3 : γ → D} {m : Option (α × Fd)} (hc : CallV X (.type T) fs g f3) (hg : Gl X x) (hm : X.mg x = none) (hv : bootBuiltins x = some (.type T)) (ha : EAr X ρ E (e :: es) m fd) (hf : ∀ a, fs a = (fd a).map AD.d := by intro _; rfl) (hn : x ≠ "__name__" := by decide) (hdb : (x == ("__debug__" : Str)) = false := by decide)
    (he : starEach (e :: es) X.env = (false, eval e X.env) :: starEach es X.env := by rfl) (hpl : (backTo pos (starEach es X.env)).any (·.1) = false := by rfl) : EV X ρ E (.Call (.Name x p) (e :: es) [] pos) (m.bind fun r => (g r.1).bind fun z => some (z, r.2)) f3 := .mk fun r er σ F H R Q q => by
  obtain ⟨y, ey, er⟩ := bind_some er
  obtain ⟨z, ez, er⟩ := bind_some er
  cases er
  refine PE.to (pe_callTy callR_at hg hm hv pA hn hdb he hpl) (ha y ey σ F H R _ fun vs F1 H1 R1 g1 d1 => hc y.1 z ez F1 H1 vs Q R1.sub ?_ fun v F2 H2 x2 d2 => q v F2 H2 (R1.ext x2) (g1.trans (Fr.of_ext x2)) d2)
  rw [hf]
  exact AdAll.of_dps d1
theorem en_callB {id : String} {p : Pos} {fs : α → List AD} {fd : α → List D} {g : α → Option γ} {f3 : γ → List D} {m : Option (α × Fd)} (hc : CallN X (.builtin id) fs g f3) (hg : Gl X x) (hm : X.mg x = none) (hv : bootBuiltins x = some (.builtin id)) (ha : EAr X ρ E (e :: es) m fd) (hf : ∀ a, fs a = (fd a).map AD.d := by intro _; rfl) (hn : x ≠ "__name__" := by decide) (hdb : (x == ("__debug__" : Str)) = false := by decide)
    (he : starEach (e :: es) X.env = (false, eval e X.env) :: starEach es X.env := by rfl) (hpl : (backTo pos (starEach es X.env)).any (·.1) = false := by rfl) : EN X ρ E (.Call (.Name x p) (e :: es) [] pos) (m.bind fun r => (g r.1).bind fun z => some (z, r.2)) f3 := .mk fun r er σ F H R Q q => by
  obtain ⟨y, ey, er⟩ := bind_some er
  obtain ⟨z, ez, er⟩ := bind_some er
  cases er
  refine PE.to (pe_callB callR_at hg hm hv pA hn hdb he hpl) (ha y ey σ F H R _ fun vs F1 H1 R1 g1 d1 => hc y.1 z ez F1 H1 vs Q R1.sub ?_ fun l ws F2 H2 x2 hln hl hlf d2 => q l ws F2 H2 (R1.ext x2) (g1.trans (Fr.of_ext x2)) (g1.there l hln) hl hlf (fun o => ?_) d2)
  · rw [hf]
    exact AdAll.of_dps d1
  · obtain ⟨ws', hw, _⟩ := R1.own_lst o
    rw [hln] at hw; cases hw
theorem ev_callP {k n : Nat} {f : Addr} {fdd : FuncData} {ps : List Str} {enc : α → List D} {m : α → Option β} {fr : β → D} {ma : Option (α × Fd)} {p : Pos} (G : FnOk X.prog X.w X.K X.mg X.base CX0 k f fdd ps (spP X.K n enc m fr)) (hr : Room k X.A) (hg : Gl X x) (hm : X.mg x = some (.ref f)) (hk : PySem.W.keepIn X.K (.ref f) = true) (hb : Binds X.K fdd ps [])
    (ha : EAr X ρ E (e :: es) ma enc) (hn : ∀ a, (enc a).length = n) (hdb : (x == ("__debug__" : Str)) = false := by decide) (he : starEach (e :: es) X.env = (false, eval e X.env) :: starEach es X.env := by rfl) (hpl : (backTo pos (starEach es X.env)).any (·.1) = false := by rfl) :
    EV X ρ E (.Call (.Name x p) (e :: es) [] pos) (ma.bind fun r => (m r.1).bind fun z => some (z, r.2)) fr := .mk fun r er σ F H R Q q => by
  obtain ⟨y, ey, er⟩ := bind_some er
  obtain ⟨z, ez, er⟩ := bind_some er
  cases er
  refine PE.to (pe_call G hr hg hm hk hb .nil pass0 pA hdb he hpl) (ha y ey σ F H R _ fun vs F1 H1 R1 g1 d1 => ?_)
  exact ⟨F1, y.1, z, by rw [List.append_nil, DpAll.length d1, hn], R1.sub, by rw [List.append_nil]; exact d1, ez, fun v F' H' x2 d3 => q v F' H' (R1.ext x2) (g1.trans (Fr.of_ext x2)) d3⟩
theorem en_callP {k n : Nat} {f : Addr} {fdd : FuncData} {ps : List Str} {enc : α → List D} {m : α → Option β} {fr : β → List D} {ma : Option (α × Fd)} {p : Pos} (G : FnOk X.prog X.w X.K X.mg X.base CX0 k f fdd ps (spN X.K n enc m fr)) (hr : Room k X.A) (hg : Gl X x) (hm : X.mg x = some (.ref f)) (hk : PySem.W.keepIn X.K (.ref f) = true) (hb : Binds X.K fdd ps [])
    (ha : EAr X ρ E (e :: es) ma enc) (hn : ∀ a, (enc a).length = n) (hdb : (x == ("__debug__" : Str)) = false := by decide) (he : starEach (e :: es) X.env = (false, eval e X.env) :: starEach es X.env := by rfl) (hpl : (backTo pos (starEach es X.env)).any (·.1) = false := by rfl) :
    EN X ρ E (.Call (.Name x p) (e :: es) [] pos) (ma.bind fun r => (m r.1).bind fun z => some (z, r.2)) fr := .mk fun r er σ F H R Q q => by
  obtain ⟨y, ey, er⟩ := bind_some er
  obtain ⟨z, ez, er⟩ := bind_some er
  cases er
  refine PE.to (pe_call G hr hg hm hk hb .nil pass0 pA hdb he hpl) (ha y ey σ F H R _ fun vs F1 H1 R1 g1 d1 => ?_)
  refine ⟨F1, y.1, z, by rw [List.append_nil, DpAll.length d1, hn], R1.sub, by rw [List.append_nil]; exact d1, ez, fun l ws F' H' x2 hln hl hlf d3 => q l ws F' H' (R1.ext x2) (g1.trans (Fr.of_ext x2)) (g1.there l hln) hl hlf (fun o => ?_) d3⟩
  obtain ⟨ws', hw, _⟩ := R1.own_lst o
  rw [hln] at hw; cases hw
end

/-! ### a comprehension with effects -/
section
variable {α β γ δ : Type}
def compS (mt : γ → Fd → Option (Bool × Fd)) (me : γ → Fd → Option (β × Fd)) : List γ → Fd → Option (List β × Fd)
  | [], s => some ([], s)
  | x :: xs, s => (mt x s).bind fun b => if b.1 then (me x b.2).bind fun y => (compS mt me xs y.2).bind fun ys => some (y.1 :: ys.1, ys.2) else compS mt me xs b.2
def compE (its : List γ) (mt : γ → Fd → Option (Bool × Fd)) (me : γ → Fd → Option (β × Fd)) (s : Fd) : Option (List β × Fd) := if its.length ≤ sizeLine then compS mt me its s else none
def yesE {γ : Type} : γ → Fd → Option (Bool × Fd) := fun _ s => some (true, s)
variable {X : Cx} {ρ : Rho} {E : Fd → Rho} {elt tg iter e : Expr} {ifs : List Expr} {scope : Scope} {own : List (Str × Nat)} {pos : Pos} {fd0 : Fd}
abbrev ETs0 (X : Cx) (ρ : Rho) (E : Fd → Rho) (ifs : List Expr) (m : Option (Bool × Fd)) : Prop :=
  ∀ r, m = some r → ∀ (σ : L2.St) (F H : Hp), Rel X.K ρ σ F H → ∀ Q : Bool → Hp → Prop, (∀ F' H', Rel X.K (E r.2) σ F' H' → Fr ρ σ F H (E r.2) σ F' H' → Q r.1 H') → ∀ (pins : List (Addr × Obj)) (s : Shared), Inv X pins σ H s →
    wpAny (model X.prog X.w) X.A (forIn ifs true fun c r => if r = true then do let ok ← isTrue c X.env (eval c X.env); pure (ForInStep.yield ok) else pure (ForInStep.yield r)) (TP X pins σ Q) X.xe s
structure ETs' (X : Cx) (ρ : Rho) (E : Fd → Rho) (ifs : List Expr) (m : Option (Bool × Fd)) : Prop where
  run : ETs0 X ρ E ifs m
instance (X : Cx) (ρ : Rho) (E : Fd → Rho) (ifs : List Expr) (m : Option (Bool × Fd)) : CoeFun (ETs' X ρ E ifs m) (fun _ => ETs0 X ρ E ifs m) := ⟨fun h => h.run⟩
theorem ets_no (h0 : E fd0 = ρ) : ETs' X ρ E [] (some (true, fd0)) := .mk fun a e σ F H R Q q pins s I => by
  cases e
  exact pts_nil.run pins s σ H Q I (q F H (by rw [h0]; exact R) (by rw [h0]; exact Fr.of_ext (Ext.refl R.sub)))
theorem ets_c {c : Expr} {m : Option (Bool × Fd)} (h : ETe X ρ E c m) : ETs' X ρ E [c] m := .mk fun a e σ F H R Q q pins s I =>
  (pts_one pT).run pins s σ H Q I (h a e σ F H R Q q)
/-- the slots of the block are given back -/
theorem rel_back {K : PySem.W.Frag} {ρ ρ' ρw : Rho} {σ σ' : L2.St} {F H : Hp} {vs : List Nat} (R : Rel K ρ' σ' F H) (hw : L2.wipe σ' vs = L2.wipe σ vs) (hl : σ.length = ρ.length) (e : wipeR ρ' vs = ρw) : Rel K ρw (L2.wipe σ vs) F H := by
  subst e
  rw [← hw]
  exact R.wipe vs
theorem wipeR_get {ρ : Rho} {i : Nat} : ∀ {vs : List Nat}, i ∉ vs → (wipeR ρ vs)[i]? = ρ[i]?
  | [], _ => rfl
  | v :: vs, h => by
    show ((wipeR ρ vs).set v .un)[i]? = ρ[i]?
    rw [List.getElem?_set_ne (fun e => h (by rw [e]; exact List.mem_cons_self)), wipeR_get fun z => h (List.mem_cons_of_mem _ z)]
theorem wipe_get {σ : L2.St} {i : Nat} : ∀ {vs : List Nat}, i ∉ vs → (L2.wipe σ vs)[i]? = σ[i]?
  | [], _ => rfl
  | v :: vs, h => by
    show ((L2.wipe σ vs).set v none)[i]? = σ[i]?
    rw [List.getElem?_set_ne (fun e => h (by rw [e]; exact List.mem_cons_self)), wipe_get fun z => h (List.mem_cons_of_mem _ z)]
/-- slots that are no own lists may be hidden and shown again -/
theorem owns_hide {ρ : Rho} {σ : L2.St} {vs : List Nat} {b : Addr} (hv : ∀ i ∈ vs, ∀ s, ρ[i]? = some s → s.isOwn = false) (h : owns ρ σ b) : owns (wipeR ρ vs) (L2.wipe σ vs) b := by
  obtain ⟨i, e, s, es, ow⟩ := h
  have hi : i ∉ vs := fun z => by rw [hv i z s es] at ow; cases ow
  exact ⟨i, by rw [wipe_get hi]; exact e, s, by rw [wipeR_get hi]; exact es, ow⟩
/-- what stands behind the block: from the hidden slots to the shown ones. The slots vs held frozen data or nothing. -/
theorem rel_show {K : PySem.W.Frag} {ρ1 ρ2 : Rho} {σ : L2.St} {F1 H1 F2 H2 : Hp} {vs : List Nat} (R1 : Rel K ρ1 σ F1 H1) (R2 : Rel K (wipeR ρ2 vs) (L2.wipe σ vs) F2 H2) (ff : Same F1 F2) (hl : ρ2.length = ρ1.length) (hv : ∀ i ∈ vs, ∀ s, ρ2[i]? = some s → s.isOwn = false ∧ ρ1[i]? = some s) : Rel K ρ2 σ F2 H2 where
  sub := R2.sub
  at_ := fun i s es => by
    by_cases hi : i ∈ vs
    · obtain ⟨h1, h2⟩ := hv i hi s es
      have q := R1.at_ i s h2
      cases s with
      | un => trivial
      | val d =>
        obtain ⟨v, e1, d1⟩ := q
        exact ⟨v, e1, Dp.mono ff d1⟩
      | own _ => cases h1
      | brw _ _ => cases h1
    · have q := R2.at_ i s (by rw [wipeR_get hi]; exact es)
      rw [wipe_get hi] at q
      exact q
  dis := fun i j b h1 h2 => by
    have low : ∀ {i b}, ownAt ρ2 σ i b → ownAt (wipeR ρ2 vs) (L2.wipe σ vs) i b := fun {i b} ⟨e, s, es, ow⟩ => by
      have hi : i ∉ vs := fun z => by rw [(hv i z s es).1] at ow; cases ow
      exact ⟨by rw [wipe_get hi]; exact e, s, by rw [wipeR_get hi]; exact es, ow⟩
    exact R2.dis i j b (low h1) (low h2)
  len := by rw [hl]; exact R1.len
theorem owns_low {ρ : Rho} {σ : L2.St} {b : Addr} {vs : List Nat} (h : owns (wipeR ρ vs) (L2.wipe σ vs) b) : owns ρ σ b := owns_wipe h
theorem fr_show {ρ1 ρ2 : Rho} {σ : L2.St} {F1 H1 F2 H2 : Hp} {vs : List Nat} (f : Fr (wipeR ρ1 vs) (L2.wipe σ vs) F1 H1 (wipeR ρ2 vs) (L2.wipe σ vs) F2 H2) (hv : ∀ i ∈ vs, ∀ s, ρ2[i]? = some s → s.isOwn = false) (hv1 : ∀ i ∈ vs, ∀ s, ρ1[i]? = some s → s.isOwn = false) : Fr ρ1 σ F1 H1 ρ2 σ F2 H2 :=
  ⟨f.ff, fun b o e n => f.hh b o e fun w => n (owns_low w), fun b o e => (f.nw b o e).elim .inl fun z => z.elim (fun z => .inr (.inl z)) fun z => .inr (.inr (owns_low z)), fun b o => (f.ow b (owns_hide hv o)).elim (fun z => .inl (owns_low z)) .inr, f.there⟩
/-- the loop of a comprehension whose elements have effects -/
theorem compE_loop {X : Cx} {J : It} {its : List γ} {fx : γ → D} {f : β → D} {g : TG} {tt : TT} {te : TE} {vs : List Nat} {u : γ → Rho → Rho} {mt : γ → Fd → Option (Bool × Fd)} {me : γ → Fd → Option (β × Fd)} {E : Fd → Rho} {σ : L2.St} {F1 H1 : Hp} {A : Addr} {r : List β × Fd} {s0 : Fd} {Qd : Hp → Prop}
    (hJ : Yields X.K J (fun F' H' => Same F1 F' ∧ Same F' H') (its.map fx)) (R : Rel X.K (E s0) σ F1 H1) (gv : GV X.K g fx u vs) (hm : compS mt me its s0 = some r) (hz : its.length ≤ sizeLine) (hA : H1 A = none) (hnA : ∀ s, ¬ owns (E s) σ A → True)
    (hu : ∀ x s, wipeR (u x (wipeR (E s) vs)) vs = wipeR (E s) vs)
    (hv : ∀ s, ∀ i ∈ vs, ∀ sl, (E s)[i]? = some sl → sl.isOwn = false ∧ (E s0)[i]? = some sl) (hlen : ∀ s, (E s).length = (E s0).length)
    (ht : ∀ x s a, mt x s = some a → ∀ (σ : L2.St) (F H : Hp), Rel X.K (u x (wipeR (E s) vs)) σ F H → ∀ Q : Bool → Hp → Prop, (∀ F' H', Rel X.K (u x (wipeR (E a.2) vs)) σ F' H' → Fr (u x (wipeR (E s) vs)) σ F H (u x (wipeR (E a.2) vs)) σ F' H' → Q a.1 H') → tt σ H Q)
    (he : ∀ x s a, me x s = some a → ∀ (σ : L2.St) (F H : Hp), Rel X.K (u x (wipeR (E s) vs)) σ F H → ∀ Q : VK, (∀ v F' H', Rel X.K (u x (wipeR (E a.2) vs)) σ F' H' → Fr (u x (wipeR (E s) vs)) σ F H (u x (wipeR (E a.2) vs)) σ F' H' → Dp X.K F' v (f a.1) → Q v H') → te σ H Q)
    (hd : ∀ ws F H, Rel X.K (E r.2) σ F H → Fr (E s0) σ F1 H1 (E r.2) σ F H → H A = some (.lst ws) → F A = none → ¬ owns (E r.2) σ A → DpAll X.K F ws (r.1.map f) → Qd H) :
    ∃ W : Nat → Nat → Hp → Prop, (∃ m, W 0 m (upd H1 A (.lst []))) ∧ ∀ i m H, W i m H →
      (J.stop i H ∧ Qd H) ∨ (J.go i H ∧ ∃ Nx : Hp → Prop, (∀ H', Nx H' → ∃ m', m' < m ∧ W (i + 1) m' H') ∧ ∀ x H', J.yld i H x H' → g x (L2.wipe σ vs) H' fun σ2 H2 => L2.wipe σ2 vs = L2.wipe σ vs ∧ tt σ2 H2 fun b H3 =>
        if b = true then te σ2 H3 fun y H4 => ∃ acc, H4 A = some (.lst acc) ∧ acc.length < sizeLine ∧ Nx (upd H4 A (.lst (acc ++ [y]))) else Nx H3) := by
  -- the list being made is no own list of a slot
  have noA : ∀ {s : Fd} {F H : Hp}, Fr (E s0) σ F1 H1 (E s) σ F H → (∀ b, owns (E s) σ b → owns (E s0) σ b) → ¬ owns (E s) σ A := fun {s F H} f k o => by
    obtain ⟨ws, hw, _⟩ := R.own_lst (k A o)
    rw [hA] at hw; cases hw
  have aF : F1 A = none := R.sub.free hA
  have len : (its.map fx).length = its.length := List.length_map _
  let P : Nat → Hp → Prop := fun i H => i ≤ its.length ∧ ∃ (F : Hp) (ws : List V) (done : List β) (left : List β × Fd) (s : Fd), Rel X.K (E s) σ F H ∧ Fr (E s0) σ F1 H1 (E s) σ F H ∧ H A = some (.lst ws) ∧ F A = none ∧ ¬ owns (E s) σ A ∧ DpAll X.K F ws (done.map f) ∧ compS mt me (its.drop i) s = some left ∧ (done ++ left.1, left.2) = r ∧ done.length ≤ i
  refine ⟨fun i m H => m = its.length - i ∧ P i H, ⟨its.length, rfl, Nat.zero_le _, F1, [], [], r, s0, ?_, ?_, upd_same, aF, ?_, .nil, hm, rfl, Nat.le_refl _⟩, ?_⟩
  · exact R.ext (Ext.newOwn R.sub hA _)
  · exact Fr.of_ext (Ext.newOwn R.sub hA _)
  · intro o
    obtain ⟨ws, hw, _⟩ := R.own_lst o
    rw [hA] at hw; cases hw
  rintro i m H ⟨rfl, hi, F, ws, done, left, s, R', fr', hws, hFA, hno, hdone, hleft, happ, hdl⟩
  have gg : Same F1 F ∧ Same F H := ⟨fr'.ff, R'.sub⟩
  by_cases hlt : i < its.length
  · refine .inr ⟨hJ.go i F H (by rw [len]; exact hlt) gg, P (i + 1), fun H' p' => ⟨its.length - (i + 1), by omega, rfl, p'⟩, fun v H' y => ?_⟩
    have hit : its[i]? = some its[i] := List.getElem?_eq_getElem hlt
    obtain ⟨F', x2, d2⟩ := hJ.yld i F H v H' (fx its[i]) gg R'.sub (by rw [List.getElem?_map, hit]; rfl) y
    have Rw : Rel X.K (wipeR (E s) vs) (L2.wipe σ vs) F' H' := (R'.ext x2).wipe vs
    refine gv its[i] v _ _ F' H' Rw d2 _ fun σ2 R2 f2 hw => ⟨hw.trans wipe_wipe, ?_⟩
    have hw' : L2.wipe σ2 vs = L2.wipe σ vs := hw.trans wipe_wipe
    rw [List.drop_eq_getElem_cons hlt] at hleft
    unfold compS at hleft
    obtain ⟨b, eb, hleft⟩ := bind_some hleft
    refine ht its[i] s b eb σ2 F' H' R2 _ fun F3 H3 R3 f3 => ?_
    have hA2 : H' A = some (.lst ws) := x2.hh _ _ hws
    have fA' : F' A = none := x2.fnone (by rw [hws]; simp) hFA
    -- A is no own list of the block's slots
    have nob : ∀ {s' : Fd} {F'' H'' : Hp}, Rel X.K (u its[i] (wipeR (E s') vs)) σ2 F'' H'' → (∀ b, owns (u its[i] (wipeR (E s') vs)) σ2 b → owns (u its[i] (wipeR (E s) vs)) σ2 b ∨ H' b = none) → ¬ owns (u its[i] (wipeR (E s') vs)) σ2 A := fun {s' F'' H''} _ k o => by
      rcases k A o with z | z
      · rcases f2.ow A z with w | w
        · exact hno (owns_low w)
        · rw [hA2] at w; cases w
      · rw [hA2] at z; cases z
    have no2 : ¬ owns (u its[i] (wipeR (E s) vs)) σ2 A := nob R2 fun b z => .inl z
    have hA3 : H3 A = some (.lst ws) := f3.hh _ _ hA2 no2
    have fA3 : F3 A = none := by
      cases q : F3 A with
      | none => rfl
      | some o =>
        rcases f3.nw A o q with z | z | z
        · rw [fA'] at z; cases z
        · rw [hA2] at z; cases z
        · exact absurd z no2
    -- back to the slots as they were
    have back : ∀ {s' : Fd} {F'' H'' : Hp}, Rel X.K (u its[i] (wipeR (E s') vs)) σ2 F'' H'' → Fr (u its[i] (wipeR (E s) vs)) σ2 F' H' (u its[i] (wipeR (E s') vs)) σ2 F'' H'' → Rel X.K (E s') σ F'' H'' ∧ Fr (E s) σ F H (E s') σ F'' H'' := fun {s' F'' H''} Rb fb => by
      have Rz : Rel X.K (wipeR (E s') vs) (L2.wipe σ vs) F'' H'' := by
        have := Rb.wipe vs
        rw [hu, hw'] at this
        exact this
      have fz : Fr (wipeR (E s) vs) (L2.wipe σ vs) F' H' (wipeR (E s') vs) (L2.wipe σ vs) F'' H'' := by
        have f1 := f2.trans fb
        refine ⟨f1.ff, f1.hh, f1.nw, fun c o => f1.ow c ?_, f1.there⟩
        have : owns (wipeR (u its[i] (wipeR (E s') vs)) vs) (L2.wipe σ2 vs) c := by rw [hu, hw']; exact o
        exact owns_low this
      have hvs : ∀ i ∈ vs, ∀ sl, (E s')[i]? = some sl → sl.isOwn = false ∧ (E s)[i]? = some sl := fun j hj sl e => by
        obtain ⟨k1, k2⟩ := hv s' j hj sl e
        refine ⟨k1, ?_⟩
        have hj' : j < (E s).length := by
          rw [hlen, ← hlen s']
          exact (List.getElem?_eq_some_iff.mp e).1
        obtain ⟨k3, k4⟩ := hv s j hj _ (List.getElem?_eq_getElem hj')
        rw [k2] at k4
        rw [List.getElem?_eq_getElem hj']
        exact k4.symm
      refine ⟨rel_show (R'.ext x2) Rz fz.ff (by rw [hlen, hlen s]) hvs, ?_⟩
      exact (Fr.of_ext x2).trans (fr_show fz (fun j hj sl e => (hv s' j hj sl e).1) fun j hj sl e => (hv s j hj sl e).1)
    cases hb : b.1 with
    | false =>
      rw [if_neg Bool.false_ne_true]
      rw [hb, if_neg Bool.false_ne_true] at hleft
      obtain ⟨Rb, fb⟩ := back R3 f3
      refine ⟨hlt, F3, ws, done, left, b.2, Rb, fr'.trans fb, hA3, fA3, fun o => ?_, DpAll.mono (x2.ff.trans f3.ff) hdone, hleft, happ, by omega⟩
      rcases fb.ow A o with z | z
      · exact hno z
      · rw [hws] at z; cases z
    | true =>
      rw [if_pos rfl]
      rw [hb, if_pos rfl] at hleft
      obtain ⟨z, ez, hleft⟩ := bind_some hleft
      obtain ⟨zs, ezs, hleft⟩ := bind_some hleft
      cases hleft
      refine he its[i] b.2 z ez σ2 F3 H3 R3 _ fun w F4 H4 R4 f4 d4 => ?_
      obtain ⟨Rb, fb⟩ := back R4 (f3.trans f4)
      have no3 : ¬ owns (u its[i] (wipeR (E b.2) vs)) σ2 A := nob R3 f3.ow
      have hA4 : H4 A = some (.lst ws) := f4.hh _ _ hA3 no3
      have fA4 : F4 A = none := by
        cases q : F4 A with
        | none => rfl
        | some o =>
          rcases f4.nw A o q with z | z | z
          · rw [fA3] at z; cases z
          · rw [hA3] at z; cases z
          · exact absurd z no3
      have hwl : ws.length = done.length := by rw [DpAll.length hdone, List.length_map]
      have no4 : ¬ owns (E z.2) σ A := fun o => by
        rcases fb.ow A o with z | z
        · exact hno z
        · rw [hws] at z; cases z
      refine ⟨ws, hA4, by omega, hlt, F4, ws ++ [w], done ++ [z.1], zs, z.2, ?_, ?_, upd_same, fA4, no4, ?_, ezs, by rw [List.append_assoc]; exact happ, by rw [List.length_append, List.length_singleton]; omega⟩
      · -- only A is changed, and A is nobody's
        refine ⟨fun c o q => ?_, fun j sl es => ?_, Rb.dis, Rb.len⟩
        · have hc : c ≠ A := fun e => by subst e; rw [fA4] at q; cases q
          rw [upd_ne hc]; exact Rb.sub c o q
        · have q := Rb.at_ j sl es
          cases sl with
          | un => trivial
          | val d => exact q
          | own es' =>
            obtain ⟨p', vs', e1, h1, h2, h3⟩ := q
            have : p' ≠ A := fun e => by subst e; exact no4 ⟨j, e1, _, es, rfl⟩
            exact ⟨p', vs', e1, by rw [upd_ne this]; exact h1, h2, h3⟩
          | brw p' es' =>
            obtain ⟨vs', e1, h1, h2, h3⟩ := q
            have : p' ≠ A := fun e => by subst e; exact no4 ⟨j, e1, _, es, rfl⟩
            exact ⟨vs', e1, by rw [upd_ne this]; exact h1, h2, h3⟩
      · have ft := fr'.trans fb
        refine ⟨ft.ff, fun c o q n => ?_, ft.nw, ft.ow, fun c q => ?_⟩
        · have hc : c ≠ A := fun e => by subst e; rw [hA] at q; cases q
          rw [upd_ne hc]; exact ft.hh c o q n
        · by_cases hc : c = A
          · subst hc; exact hA
          · rw [upd_ne hc] at q; exact ft.there c q
      · rw [List.map_append]
        exact DpAll.append (DpAll.mono (x2.ff.trans (f3.ff.trans f4.ff)) hdone) (.cons d4 .nil)
  · have e : i = its.length := by omega
    subst e
    rw [List.drop_length] at hleft
    cases hleft
    rw [← happ] at hd
    refine .inl ⟨by rw [← len]; exact hJ.stop F H gg, hd ws F H R' fr' hws hFA hno ?_⟩
    show DpAll _ _ _ ((done ++ []).map f)
    rw [List.append_nil]
    exact hdone
theorem en_comp {fx : γ → D} {f : β → D} {g : TG} {u : γ → Rho → Rho} {mi : Option (List γ)} {mt : γ → Fd → Option (Bool × Fd)} {me : γ → Fd → Option (β × Fd)} (hc : X.calm = true) (hN : X.N.Nodup) (hi : PIt X ρ tg iter mi fx true) (h0 : E fd0 = ρ) (ok : BlkOk X.N X.env.scope scope own)
    (hg : ∀ s H C cl fp, PG (blkX X scope s H C cl fp) tg g) (gv : GV X.K g fx u (own.map (·.2)))
    (hu : ∀ x s, wipeR (u x (wipeR (E s) (own.map (·.2)))) (own.map (·.2)) = wipeR (E s) (own.map (·.2)) := by intro _ _; rfl)
    (hv : ∀ s, ∀ i ∈ own.map (·.2), ∀ sl, (E s)[i]? = some sl → sl.isOwn = false ∧ (E fd0)[i]? = some sl) (hlen : ∀ s, (E s).length = (E fd0).length := by intro _; rfl)
    (ht : ∀ x fd s H C cl fp, ETs' (blkX X scope s H C cl fp) (u x (wipeR (E fd) (own.map (·.2)))) (fun fd => u x (wipeR (E fd) (own.map (·.2)))) ifs (mt x fd))
    (he : ∀ x fd s H C cl fp, EV (blkX X scope s H C cl fp) (u x (wipeR (E fd) (own.map (·.2)))) (fun fd => u x (wipeR (E fd) (own.map (·.2)))) elt (me x fd) f) (hs : ∀ x, foldedSetIterable iter X.env x = pure x := by intro _; rfl) :
    EN X ρ E (.ListComp elt [⟨tg, iter, ifs, 0⟩] scope pos) (mi.bind fun its => compE its mt me fd0) (fun ys => ys.map f) := .mk fun r er σ F H R Q q => by
  obtain ⟨its, eits, er⟩ := bind_some er
  unfold compE at er
  by_cases hz : its.length ≤ sizeLine
  · rw [if_pos hz] at er
    subst h0
    refine PE.to (pe_lc hc hN (pI X) ok hg (pBlkT X scope ifs) (pBlkE X scope elt) hs) ?_
    refine hi its eits σ F H R _ fun J F1 H1 x1 y => fun A hA => ?_
    refine compE_loop (y.mono fun F' H' z => by rw [if_pos rfl]; exact z) (R.ext x1) gv er hz hA (fun _ _ => trivial) hu hv hlen (fun x s a ex σ F H R Q q => fun s' H0 C cl fp pins s'' I => ht x s s' H0 C cl fp a ex σ F H R Q q pins s'' I) (fun x s a ex σ F H R Q q => fun s' H0 C cl fp => he x s s' H0 C cl fp a ex σ F H R Q q) fun ws F' H' R' f' hw hf hno hdd => ?_
    exact q A ws F' H' R' ((Fr.of_ext x1).trans f') (x1.hh.free hA) hw hf hno hdd
  · rw [if_neg hz] at er; cases er
end

/-! ### statements with effects; defs with the feed -/
section
variable {α β γ δ S S' R R' : Type}
variable {X : Cx} {ρ : Rho} {E : Fd → Rho} {a b c e iter tg : Expr} {st : Stmt} {rest body els : List Stmt} {pos pos' : Pos} {fr : R → Fin} {i : Nat} {x : Str} {fd0 : Fd}
theorem n1_setE {m : Option (α × Fd)} {f : α → D} (n : Nm X.N X.env.scope i x) (h : EV X ρ E e m f) (hN : X.N.Nodup) (hx : Loc X.env.scope x) (hs : swapsWith e (some (.Name x pos')) pos.line X.env = pure false := by rfl) (hf : X.fn x = true ∨ X.env.scope.names.lookup x = some .local := by first | exact .inl rfl | exact .inr rfl | assumption) :
    N1 X ρ (.Assign [.Name x pos'] e pos) m (fun z => (E z.2).set i (.val (f z.1))) := .mk fun _ fr => .mk fun r er σ F H Rl De q => by
  obtain ⟨z, ez, er⟩ := bind_some er
  cases er
  exact PS.to (ps_set hN n.hN hx pE hs hf) (h z ez σ F H Rl _ fun v F1 H1 R1 g1 d1 => q _ F1 H1 (R1.setV d1) (g1.trans (Fr.setN rfl R1.sub)))
theorem fr_setO {σ : L2.St} {F H F1 H1 : Hp} {ρ1 : Rho} {p : Addr} {ds : List D} (g : Fr ρ σ F H ρ1 σ F1 H1) (hl : σ.length = ρ1.length) (hn : H p = none) : Fr ρ σ F H (ρ1.set i (.own ds)) (σ.set i (some (.ref p))) F1 H1 :=
  ⟨g.ff, g.hh, g.nw, fun b hb => (owns_setO hb hl).elim (fun w => g.ow b w) fun w => .inr (by rw [w]; exact hn), g.there⟩
theorem n1_setEN {m : Option (α × Fd)} {f : α → List D} (n : Nm X.N X.env.scope i x) (h : EN X ρ E e m f) (hl : ∀ s, i < (E s).length) (hN : X.N.Nodup) (hx : Loc X.env.scope x) (hs : swapsWith e (some (.Name x pos')) pos.line X.env = pure false := by rfl) (hf : X.fn x = true ∨ X.env.scope.names.lookup x = some .local := by first | exact .inl rfl | exact .inr rfl | assumption) :
    N1 X ρ (.Assign [.Name x pos'] e pos) m (fun z => (E z.2).set i (.own (f z.1))) := .mk fun _ fr => .mk fun r er σ F H Rl De q => by
  obtain ⟨z, ez, er⟩ := bind_some er
  cases er
  refine PS.to (ps_set hN n.hN hx pE hs hf) (h z ez σ F H Rl _ fun p vs F1 H1 R1 g1 hn hp hpf no d1 => ?_)
  exact q _ F1 H1 (R1.setO hp hpf d1 no (hl _)) (fr_setO g1 R1.len hn)
theorem n1_tupE {m : Option (α × Fd)} {f : α → D} {g : TG} {u : α → Rho → Rho} {vs : List Nat} (h : EV X ρ E e m f) (hg : PG X tg g) (gv : GV X.K g f u vs) (hs : swapsWithSole [tg] e pos.line X.env = pure false := by rfl) (hw : swappedStores [tg] e X.env = pure none := by rfl) (h1 : (assignEach [tg] X.env).map (·.2) = [assign tg X.env] := by rfl) :
    N1 X ρ (.Assign [tg] e pos) m (fun z => u z.1 (E z.2)) := .mk fun _ fr => .mk fun r er σ F H Rl De q => by
  obtain ⟨z, ez, er⟩ := bind_some er
  cases er
  refine PS.to (ps_asg pE hg hs hw h1) (h z ez σ F H Rl _ fun v F1 H1 R1 g1 d1 => ?_)
  exact gv z.1 v _ σ F1 H1 R1 d1 _ fun σ' R' f' _ => q σ' F1 H1 R' (g1.trans f')
/-- an expression for its effects -/
theorem n1_exprE {m : Option (α × Fd)} {f : α → D} (h : EV X ρ E e m f) (hs : swapsWith e none pos.line X.env = pure false := by rfl) : N1 X ρ (.Expr e pos) (m.bind fun z => some z.2) E := .mk fun _ fr => .mk fun r er σ F H Rl De q => by
  obtain ⟨s, es, er⟩ := bind_some er
  obtain ⟨z, ez, es⟩ := bind_some es
  cases es
  cases er
  exact PS.to (ps_expr pE hs) (h z ez σ F H Rl _ fun v F1 H1 R1 g1 d1 => q σ F1 H1 R1 g1)
/-- xs.append(e): xs an own list, e with effects -/
theorem n1_appendE {xs : List α} {f : α → D} {m : Option (α × Fd)} {apos cpos : Pos} (n : Nm X.N X.env.scope i x) (h : EV X ρ E e m f) (hρ0 : ρ[i]? = some (.own (xs.map f))) (hρ : ∀ s, (E s)[i]? = some (.own (xs.map f)))
    (hs : swapsWith (.Call (.Attribute (.Name x pos') "append" apos) [e] [] cpos) none pos.line X.env = pure false := by rfl)
    (hbase : attributeBase (.Name x pos') "append" X.env (eval (.Name x pos') X.env) = eval (.Name x pos') X.env := by rfl)
    (hfew : ((backTo cpos (starEach [e] X.env)).all (fun x => !x.1) && (backToKw cpos (keywordEach [] X.env)).all (fun x => x.1.isSome) && decide (([e] : List Expr).length + ([] : List Keyword).length + (if ([] : List Keyword).isEmpty then 0 else 1) < 30)) = true := by rfl)
    (hline : (apos.endLine == cpos.line) = true := by rfl) (hse : starEach [e] X.env = (false, eval e X.env) :: starEach [] X.env := by rfl) (hplain : (backTo cpos (starEach [] X.env)).any (·.1) = false := by rfl) :
    N1 X ρ (.Expr (.Call (.Attribute (.Name x pos') "append" apos) [e] [] cpos) pos) (m.bind fun y => (appT xs y.1).bind fun ys => some (ys, y.2)) (fun r => (E r.2).set i (.own (r.1.map f))) := .mk fun _ fr => .mk fun r er σ F H Rl De q => by
  obtain ⟨z, ez, er⟩ := bind_some er
  obtain ⟨y, ey, ez⟩ := bind_some ez
  obtain ⟨ys, eys, ez⟩ := bind_some ez
  cases ez
  cases er
  obtain ⟨hz, rfl⟩ := ite_some eys
  refine PS.to (ps_expr (pe_bm PySem.F.plainAttrs_list PySem.F.slot_list_append PySem.F.type_list_append mt_append (pe_var n.hN n.hv n.hd n.hcd) (pa_cons pE pa_nil hse) hbase hfew hline hse hplain) hs) ?_
  obtain ⟨p, vs, e0, hp, hf, hdd⟩ := Rl.at_ i _ hρ0
  refine ⟨.ref p, e0, .inl ⟨rfl, _, SqL.of hp⟩, h y ey σ F H Rl _ fun v F1 H1 R1 g1 d1 => ?_⟩
  obtain ⟨p', vs', e1, hp1, hf1, hdd1⟩ := R1.at_ i _ (hρ y.2)
  rw [e0] at e1; cases e1
  have hl : vs'.length = xs.length := by rw [DpAll.length hdd1, List.length_map]
  have hd' : DpAll X.K F1 (vs' ++ [v]) ((xs ++ [y.1]).map f) := by
    rw [List.map_append]
    exact DpAll.append hdd1 (.cons d1 .nil)
  obtain ⟨R', f'⟩ := R1.change (hρ y.2) e0 hd'
  exact ⟨p, vs', v, rfl, rfl, hp1, by omega, q σ F1 _ R' (g1.trans f')⟩
/-- xs[k] = e, xs[k] op= e: xs an own list; the index or the value have effects -/
theorem n1_putE {p2 : Pos} {xs : List α} {f : α → D} {m : Option (α × Fd)} {mk : Fd → Option (Int × Fd)} (n : Nm X.N X.env.scope i x) (h : EV X ρ E e m f) (hk : ∀ s, EV X (E s) E c (mk s) dI) (hρ : ∀ s, (E s)[i]? = some (.own (xs.map f)))
    (hs : swapsWithSole [.Subscript (.Name x pos') c p2] e pos.line X.env = pure false := by rfl) (hw : swappedStores [.Subscript (.Name x pos') c p2] e X.env = pure none := by rfl) (hpg : ∀ {to ti : TE}, PE X (.Name x pos') to → PE X c ti → PG X (.Subscript (.Name x pos') c p2) (gSub to ti rSetL) := by intro _ _ h1 h2; exact pg_sub h1 h2 set_list) :
    N1 X ρ (.Assign [.Subscript (.Name x pos') c p2] e pos) (m.bind fun y => (mk y.2).bind fun k => (setAt xs k.1 y.1).bind fun ys => some (ys, k.2)) (fun r => (E r.2).set i (.own (r.1.map f))) := .mk fun _ fr => .mk fun r er σ F H Rl De q => by
  obtain ⟨z, ez, er⟩ := bind_some er
  obtain ⟨y, ey, ez⟩ := bind_some ez
  obtain ⟨k, ek, ez⟩ := bind_some ez
  obtain ⟨ys, eys, ez⟩ := bind_some ez
  cases ez
  cases er
  refine PS.to (ps_asg pE (hpg (pe_var n.hN n.hv n.hd n.hcd) pE) hs hw) (h y ey σ F H Rl _ fun v F1 H1 R1 g1 d1 => ?_)
  obtain ⟨p0, vs0, e0, _⟩ := R1.at_ i _ (hρ y.2)
  refine ⟨.ref p0, e0, hk y.2 k ek σ F1 H1 R1 _ fun u F2 H2 R2 g2 d2 => ?_⟩
  obtain ⟨p, vs, j, e1, hp, hj, R', f'⟩ := own_set R2 (hρ k.2) (Dp.mono g2.ff d1) eys
  rw [e0] at e1; cases e1
  exact ⟨p0, vs, k.1, j, rfl, dp_int d2, hp, hj, q σ F2 _ R' (g1.trans (g2.trans f'))⟩
/-! tests -/
theorem sr_ifretE {mc : Option (Bool × Fd)} {mA mB : Fd → Option R} (hc : ETe X ρ E c mc) (hA : ∀ s, SR X (E s) body (mA s) fr) (hB : ∀ s, SR X (E s) rest (mB s) fr) : SR X ρ (.If c body [] pos :: rest) (mc.bind fun k => if k.1 then mA k.2 else mB k.2) fr := .mk fun _ E2 => .mk fun r er σ F H Rl De q => by
  obtain ⟨r', er', er⟩ := bind_some er
  obtain ⟨⟨k, s⟩, ek, er'⟩ := bind_some er'
  refine PSs.to (pss_cons (ps_if pT pSs pss_nil) pSs) (hc _ ek σ F H Rl _ fun F1 H1 R1 g1 => ?_)
  have q' : SOk X (E s) σ F1 H1 De E2 fr r := q.pre g1
  cases er
  cases k with
  | true => exact iteT (hA s _ E2 (.inr r') (by rw [show mA s = some r' from er']; rfl) σ F1 H1 R1 _ (FinOk.nx q'))
  | false => exact iteF (hB s _ E2 (.inr r') (by rw [show mB s = some r' from er']; rfl) σ F1 H1 R1 De q')
theorem sr_ifE {mc : Option (Bool × Fd)} {mA mB : Fd → Option R} (hc : ETe X ρ E c mc) (hA : ∀ s, SR X (E s) body (mA s) fr) (hB : ∀ s, SR X (E s) els (mB s) fr) : SR X ρ [.If c body els pos] (mc.bind fun k => if k.1 then mA k.2 else mB k.2) fr := .mk fun _ E2 => .mk fun r er σ F H Rl De q => by
  obtain ⟨r', er', er⟩ := bind_some er
  obtain ⟨⟨k, s⟩, ek, er'⟩ := bind_some er'
  refine PSs.to (pss_one (ps_if pT pSs pSs)) (hc _ ek σ F H Rl _ fun F1 H1 R1 g1 => ?_)
  have q' : SOk X (E s) σ F1 H1 De E2 fr r := q.pre g1
  cases er
  cases k with
  | true => exact iteT (hA s _ E2 (.inr r') (by rw [show mA s = some r' from er']; rfl) σ F1 H1 R1 De q')
  | false => exact iteF (hB s _ E2 (.inr r') (by rw [show mB s = some r' from er']; rfl) σ F1 H1 R1 De q')
theorem n1_ifE {mc : Option (Bool × Fd)} {mA mB : Fd → Option S} {E' : S → Rho} (hc : ETe X ρ E c mc) (hA : ∀ s, SN X (E s) body (mA s) E') (hB : ∀ s, SN X (E s) els (mB s) E') : N1 X ρ (.If c body els pos) (mc.bind fun k => if k.1 then mA k.2 else mB k.2) E' := .mk fun _ fr => .mk fun r er σ F H Rl De q => by
  obtain ⟨r', er', er⟩ := bind_some er
  obtain ⟨⟨k, s⟩, ek, er'⟩ := bind_some er'
  refine PS.to (ps_if pT pSs pSs) (hc _ ek σ F H Rl _ fun F1 H1 R1 g1 => ?_)
  have q' : SOk X (E s) σ F1 H1 De E' fr r := q.pre g1
  cases er
  cases k with
  | true => exact iteT (hA s _ fr (.inl r') (by rw [show mA s = some r' from er']; rfl) σ F1 H1 R1 De q')
  | false => exact iteF (hB s _ fr (.inl r') (by rw [show mB s = some r' from er']; rfl) σ F1 H1 R1 De q')
theorem sv_ifretE {mc : Option (Bool × Fd)} {mA : Fd → Option R} {mB : Fd → Option (Sum S R)} {E' : S → Rho} (hc : ETe X ρ E c mc) (hA : ∀ s, SR X (E s) body (mA s) fr) (hB : ∀ s, SV X (E s) rest (mB s) E' fr) : SV X ρ (.If c body [] pos :: rest) (mc.bind fun k => if k.1 then (mA k.2).bind fun r => some (.inr r) else mB k.2) E' fr := .mk fun r er σ F H Rl De q => by
  obtain ⟨⟨k, s⟩, ek, er⟩ := bind_some er
  refine PSs.to (pss_cons (ps_if pT pSs pss_nil) pSs) (hc _ ek σ F H Rl _ fun F1 H1 R1 g1 => ?_)
  have q' : SOk X (E s) σ F1 H1 De E' fr r := q.pre g1
  cases k with
  | true =>
    obtain ⟨r', er', er⟩ := bind_some er
    cases er
    exact iteT (hA s _ E' (.inr r') (by rw [show mA s = some r' from er']; rfl) σ F1 H1 R1 _ (FinOk.nx q'))
  | false => exact iteF (hB s r er σ F1 H1 R1 De q')
/-! return -/
theorem sr_retE {m : Option (β × Fd)} {fr : β × Fd → Fin} {f : β → D} {bs : β × Fd → List (Addr × List D)} (h : EV X ρ E e m f) (hf : ∀ r, fr r = .rt (f r.1) (bs r) := by exact fun _ => rfl) (hl : ∀ r, LentAt (E r.2) (bs r)) : SR X ρ [.Return (some e) pos] m fr := .mk fun _ E2 => .mk fun r er σ F H Rl De q => by
  obtain ⟨z, ez, er⟩ := bind_some er
  cases er
  have q' : FinOk X ρ σ F H De (fr z) := q
  rw [hf] at q'
  exact PSs.to (pss_one (ps_ret pE)) (h z ez σ F H Rl _ fun v F1 H1 R1 g1 d1 => q' v F1 H1 (Fx.of g1 R1.sub) ((hl z).lent R1) d1)
theorem sr_retEN {m : Option (β × Fd)} {fr : β × Fd → Fin} {f : β → List D} {bs : β × Fd → List (Addr × List D)} (h : EN X ρ E e m f) (hf : ∀ r, fr r = .rn (f r.1) (bs r) := by exact fun _ => rfl) (hl : ∀ r, LentAt (E r.2) (bs r)) : SR X ρ [.Return (some e) pos] m fr := .mk fun _ E2 => .mk fun r er σ F H Rl De q => by
  obtain ⟨z, ez, er⟩ := bind_some er
  cases er
  have q' : FinOk X ρ σ F H De (fr z) := q
  rw [hf] at q'
  refine PSs.to (pss_one (ps_ret pE)) (h z ez σ F H Rl _ fun p vs F1 H1 R1 g1 hn hp hpf no d1 => q' p vs F1 H1 (Fx.of g1 R1.sub) ((hl z).lent R1) (.inl hn) hp hpf (fun b hb hbp => ?_) d1)
  obtain ⟨i', hi', _⟩ := (hl z).own R1 b hb
  rw [hbp] at hi'
  exact no ⟨i', hi'⟩
/-! a def whose first argument is the feed -/
variable {P : Program} {w : World} {K : PySem.W.Frag} {mg : Str → Option Value} {base : Heap}
theorem rel_startB {N : List Str} {vs vs0 : List V} {ds fs : List D} {F H : Hp} {p : Addr} (hl : vs.length + 1 ≤ N.length) (s : Same F H) (hp : H p = some (.lst vs0)) (hf : F p = none) (hd : DpAll K F vs0 fs) (d : DpAll K F vs ds) :
    Rel K (.brw p fs :: (ds.map Sl.val ++ List.replicate (N.length - (ds.length + 1)) Sl.un)) (L2.start N (.ref p :: vs)) F H where
  sub := s
  at_ := fun i sl e => by
    cases i with
    | zero =>
      cases e
      exact ⟨vs0, rfl, hp, hf, hd⟩
    | succ i =>
      have e' : (ds.map Sl.val ++ List.replicate (N.length - (ds.length + 1)) Sl.un)[i]? = some sl := e
      by_cases hi : i < ds.length
      · rw [List.getElem?_append_left (by rw [List.length_map]; exact hi), List.getElem?_map] at e'
        cases ed : ds[i]? with
        | none => rw [ed] at e'; cases e'
        | some x =>
          rw [ed] at e'
          cases e'
          obtain ⟨v, hv, dv⟩ := DpAll.get' d ed
          refine ⟨v, ?_, dv⟩
          unfold L2.start
          rw [List.getElem?_append_left (by rw [List.length_map, List.length_cons, DpAll.length d]; omega), List.getElem?_map]
          show (vs[i]?).map some = _
          rw [hv]
          rfl
      · rw [List.getElem?_append_right (by rw [List.length_map]; omega)] at e'
        have := List.mem_of_getElem? e'
        rw [List.mem_replicate] at this
        rw [this.2]
        trivial
  dis := fun i j b h h' => by
    have z : ∀ {i b}, ownAt (.brw p fs :: (ds.map Sl.val ++ List.replicate (N.length - (ds.length + 1)) Sl.un)) (L2.start N (.ref p :: vs)) i b → i = 0 := fun {i b} ⟨_, s', es, ow⟩ => by
      cases i with
      | zero => rfl
      | succ i =>
        have e' : (ds.map Sl.val ++ List.replicate (N.length - (ds.length + 1)) Sl.un)[i]? = some s' := es
        have hm := List.mem_of_getElem? e'
        rcases List.mem_append.mp hm with hm | hm
        · obtain ⟨d', _, rfl⟩ := List.mem_map.mp hm
          cases ow
        · rw [List.mem_replicate] at hm
          rw [hm.2] at ow
          cases ow
    rw [z h, z h']
  len := by
    unfold L2.start
    simp only [List.length_append, List.length_map, List.length_cons, List.length_replicate, DpAll.length d]
    omega
theorem owns_startB {σ : L2.St} {p b : Addr} {fs ds : List D} {n : Nat} (h0 : σ[0]? = some (some (.ref p))) (h : owns (.brw p fs :: (ds.map Sl.val ++ List.replicate n Sl.un)) σ b) : b = p := by
  obtain ⟨i, e, s', es, ow⟩ := h
  cases i with
  | zero => rw [h0] at e; cases e; rfl
  | succ i =>
    have e' : (ds.map Sl.val ++ List.replicate n Sl.un)[i]? = some s' := es
    have hm := List.mem_of_getElem? e'
    rcases List.mem_append.mp hm with hm | hm
    · obtain ⟨d', _, rfl⟩ := List.mem_map.mp hm
      cases ow
    · rw [List.mem_replicate] at hm
      rw [hm.2] at ow
      cases ow
theorem Fx.fp {ρ : Rho} {σ : L2.St} {F H F' H' : Hp} {p : Addr} (f : Fx ρ σ F H F' H') (no : ∀ b, owns ρ σ b → b = p) (hp' : ∀ o, F' p = some o → False) : Fp p F H F' H' :=
  ⟨f.ff, f.sub, fun b o hb e => f.hh b o e fun w => hb (no b w), fun b o e => (f.nw b o e).elim .inl fun z => z.elim .inr fun z => by
    have := no b z
    subst this
    exact (hp' o e).elim⟩
theorem fn_f {x qual : Str} {st : Stmt} {f : Addr} {fd : FuncData} {N ps : List Str} {k n : Nat} {enc : α → List D} {m : Fd → α → Option (β × Fd)} {fe : β → D} (F : Fun K x qual st f fd) (S : FnScope N ps (defScope st)) (hn : n = ps.length) (hN : n ≤ N.length)
    (hlen : ∀ a, (enc a).length + 1 = n)
    (hbody : ∀ (cdv : Value) (A : Around) (outer : List Env) (s : Shared) (H : Hp) (E : XK), Room k (A.deeper (envOfC qual (defScope st) s.heap.objs.size f cdv)) → ∀ (p : Addr) (fd : Fd) (a : α),
      SR (bodyX P w K mg base N qual st f cdv A outer s H E) (.brw p (encF fd) :: ((enc a).map Sl.val ++ List.replicate (N.length - n) Sl.un)) (defBody st) (m fd a) (fun r => .rt (fe r.1) [(p, encF r.2)])) :
    FnOk P w K mg base CX0 (k + 1) f fd ps (spF K n enc m fe) := by
  refine F.ok S (fun vs H Q E h => ?_) (fun cdv A outer s H vs Q E hr h => ?_)
  · obtain ⟨_, _, _, _, _, _, _, rfl, e, _⟩ := h
    rw [List.length_cons, e, hn]
  obtain ⟨Fz, p, ws, vs0, fd, a, r, rfl, hl, sm, hp, hf, dd, d, hb, q⟩ := h
  refine ⟨tSs (bodyX P w K mg base N qual st f cdv A outer s H E) (defBody st), pSs, ?_⟩
  have hn' : (enc a).length + 1 = n := hlen a
  have R0 : Rel K (.brw p (encF fd) :: ((enc a).map Sl.val ++ List.replicate (N.length - n) Sl.un)) (L2.start N (.ref p :: ws)) Fz H := by
    have := rel_startB (N := N) (by rw [hl]; exact hN) sm hp hf dd d
    rw [hn'] at this
    exact this
  refine hbody cdv A outer s H E hr p fd a Unit (fun _ => []) (.inr r) (by rw [hb]; rfl) _ Fz H R0 _ ?_
  intro v F' H' f' l d'
  obtain ⟨vs1, h1, h2, h3⟩ := l (p, encF r.2) List.mem_cons_self
  exact q v F' H' vs1 (f'.fp (fun b o => owns_startB rfl o) fun o e => by rw [h2] at e; cases e) h1 h2 h3 d'
theorem fn_fn {x qual : Str} {st : Stmt} {f : Addr} {fd : FuncData} {N ps : List Str} {k n : Nat} {enc : α → List D} {m : Fd → α → Option (β × Fd)} {fe : β → List D} (F : Fun K x qual st f fd) (S : FnScope N ps (defScope st)) (hn : n = ps.length) (hN : n ≤ N.length)
    (hlen : ∀ a, (enc a).length + 1 = n)
    (hbody : ∀ (cdv : Value) (A : Around) (outer : List Env) (s : Shared) (H : Hp) (E : XK), Room k (A.deeper (envOfC qual (defScope st) s.heap.objs.size f cdv)) → ∀ (p : Addr) (fd : Fd) (a : α),
      SR (bodyX P w K mg base N qual st f cdv A outer s H E) (.brw p (encF fd) :: ((enc a).map Sl.val ++ List.replicate (N.length - n) Sl.un)) (defBody st) (m fd a) (fun r => .rn (fe r.1) [(p, encF r.2)])) :
    FnOk P w K mg base CX0 (k + 1) f fd ps (spFN K n enc m fe) := by
  refine F.ok S (fun vs H Q E h => ?_) (fun cdv A outer s H vs Q E hr h => ?_)
  · obtain ⟨_, _, _, _, _, _, _, rfl, e, _⟩ := h
    rw [List.length_cons, e, hn]
  obtain ⟨Fz, p, ws, vs0, fd, a, r, rfl, hl, sm, hp, hf, dd, d, hb, q⟩ := h
  refine ⟨tSs (bodyX P w K mg base N qual st f cdv A outer s H E) (defBody st), pSs, ?_⟩
  have hn' : (enc a).length + 1 = n := hlen a
  have R0 : Rel K (.brw p (encF fd) :: ((enc a).map Sl.val ++ List.replicate (N.length - n) Sl.un)) (L2.start N (.ref p :: ws)) Fz H := by
    have := rel_startB (N := N) (by rw [hl]; exact hN) sm hp hf dd d
    rw [hn'] at this
    exact this
  refine hbody cdv A outer s H E hr p fd a Unit (fun _ => []) (.inr r) (by rw [hb]; rfl) _ Fz H R0 _ ?_
  intro l zs F' H' f' lent hln hll hlf hlp d'
  obtain ⟨vs1, h1, h2, h3⟩ := lent (p, encF r.2) List.mem_cons_self
  have hpl : p ≠ l := hlp _ List.mem_cons_self
  refine q l zs F' H' vs1 (f'.fp (fun b o => owns_startB rfl o) fun o e => by rw [h2] at e; cases e) h1 h2 h3 (hln.elim id fun z => absurd (owns_startB rfl z).symm hpl) hll hlf (Ne.symm hpl) d'
/-- a def that changes nothing and always returns -/
theorem fn_pr {x qual : Str} {st : Stmt} {f : Addr} {fd : FuncData} {N ps : List Str} {k n : Nat} {enc : α → List D} {m : α → Option β} {fe : β → D} (F : Fun K x qual st f fd) (S : FnScope N ps (defScope st)) (hn : n = ps.length) (hN : n ≤ N.length) (hlen : ∀ a, (enc a).length = n)
    (hbody : ∀ (cdv : Value) (A : Around) (outer : List Env) (s : Shared) (H : Hp) (E : XK), Room k (A.deeper (envOfC qual (defScope st) s.heap.objs.size f cdv)) → ∀ a : α,
      SR (bodyX P w K mg base N qual st f cdv A outer s H E) ((enc a).map Sl.val ++ List.replicate (N.length - n) Sl.un) (defBody st) (m a) (fun b => .rt (fe b) [])) :
    FnOk P w K mg base CX0 (k + 1) f fd ps (spP K n enc m fe) :=
  fn_p (mm := fun a => (m a).bind fun r => some (.inr r)) (r0 := none) (E0 := fun _ _ => []) F S hn hN hlen (fun a => by cases m a <;> rfl) (fun b h => by cases h) fun cdv A outer s H E hr a => hbody cdv A outer s H E hr a _ _
theorem fn_nr {x qual : Str} {st : Stmt} {f : Addr} {fd : FuncData} {N ps : List Str} {k n : Nat} {enc : α → List D} {m : α → Option β} {fe : β → List D} (F : Fun K x qual st f fd) (S : FnScope N ps (defScope st)) (hn : n = ps.length) (hN : n ≤ N.length) (hlen : ∀ a, (enc a).length = n)
    (hbody : ∀ (cdv : Value) (A : Around) (outer : List Env) (s : Shared) (H : Hp) (E : XK), Room k (A.deeper (envOfC qual (defScope st) s.heap.objs.size f cdv)) → ∀ a : α,
      SR (bodyX P w K mg base N qual st f cdv A outer s H E) ((enc a).map Sl.val ++ List.replicate (N.length - n) Sl.un) (defBody st) (m a) (fun b => .rn (fe b) [])) :
    FnOk P w K mg base CX0 (k + 1) f fd ps (spN K n enc m fe) :=
  fn_n (mm := fun a => (m a).bind fun r => some (.inr r)) (E0 := fun _ _ => []) F S hn hN hlen (fun a => by cases m a <;> rfl) fun cdv A outer s H E hr a => hbody cdv A outer s H E hr a _ _
/-- a written list of items of any kinds -/
theorem pn_lstD {es : List Expr} {m : Option α} {fs : α → List AD} {ds : α → List D} (h : PAr X ρ es m fs) (hd : ∀ x, fs x = (ds x).map AD.d) (hn : ∀ x, (ds x).length ≤ 1000) : PN X ρ (.List es pos) m ds := .mk fun z ez σ F H Rl Q q => by
  refine PE.to (pe_lst pA) (h z ez σ F H Rl _ fun vs F1 H1 x1 d1 => ?_)
  rw [hd] at d1
  have d2 := AdAll.dps d1
  refine ⟨Nat.le_of_lt (small1000 (by rw [DpAll.length d2]; exact hn z)), fun p hp => ?_⟩
  exact q p vs F1 _ (x1.trans (Ext.newOwn x1.fh hp _)) (x1.hh.free hp) upd_same (x1.fh.free hp) d2
end

/-! ### the feed's own defs -/
section
variable {α : Type} {X : Cx} {ρ : Rho} {c e : Expr} {pos pos' p2 : Pos} {i j : Nat} {x : Str} {p : Addr} {fd : Fd} {k : Int}
theorem pv_feed (n : Nm X.N X.env.scope i x) (hρ : ρ[i]? = some (.brw p (encF fd))) : PV X ρ (.Name x pos) (some fd) (fun fd => AD.l (encF fd)) := .mk fun z' ez σ F H R Q q => by
  cases ez
  obtain ⟨vs, e1, hp, hf, r⟩ := R.at_ i _ hρ
  exact PE.to (pe_var n.hN n.hv n.hd n.hcd) ⟨.ref p, e1, q (.ref p) F H (Ext.refl R.sub) ⟨p, vs, rfl, SqL.of hp, r⟩⟩
theorem pv_fcells {k} {p3 : Pos} (n : Nm X.N X.env.scope i x) (hρ : ρ[i]? = some (.brw p (encF fd))) : PV X ρ (.Subscript (.Name x pos) (.Constant (.int 0) k p3) pos') (some fd.cells) (aD (dL dI)) := pv_ixD (g := Fd.cells) (ds := encF) (pv_feed n hρ) (fun _ => rfl) (fun _ => rfl)
theorem pv_fat {k} {p3 : Pos} (n : Nm X.N X.env.scope i x) (hρ : ρ[i]? = some (.brw p (encF fd))) : PV X ρ (.Subscript (.Name x pos) (.Constant (.int 1) k p3) pos') (some fd.at_) (aD dI) := pv_ixD (g := Fd.at_) (ds := encF) (pv_feed n hρ) (fun _ => rfl) (fun _ => rfl)
theorem pv_fbig {k} {p3 : Pos} (n : Nm X.N X.env.scope i x) (hρ : ρ[i]? = some (.brw p (encF fd))) : PV X ρ (.Subscript (.Name x pos) (.Constant (.int 2) k p3) pos') (some fd.big) (aD dI) := pv_ixD (g := Fd.big) (ds := encF) (pv_feed n hρ) (fun _ => rfl) (fun _ => rfl)
theorem pv_fseed {k} {p3 : Pos} (n : Nm X.N X.env.scope i x) (hρ : ρ[i]? = some (.brw p (encF fd))) : PV X ρ (.Subscript (.Name x pos) (.Constant (.int 3) k p3) pos') (some fd.seed) (aD dI) := pv_ixD (g := Fd.seed) (ds := encF) (pv_feed n hρ) (fun _ => rfl) (fun _ => rfl)
/-- with the feed as it is then: what is returned -/
theorem sr_retF {β : Type} {m : Option β} {f : β → D} {fr : β × Fd → Fin} (h : PV X ρ e m (aD f)) (hρ : ρ[i]? = some (.brw p (encF fd))) (hf : ∀ r, fr r = .rt (f r.1) [(p, encF r.2)] := by exact fun _ => rfl) : SR X ρ [.Return (some e) pos] (m.bind fun z => some (z, fd)) fr := .mk fun _ E2 => .mk fun r er σ F H Rl De q => by
  obtain ⟨zz, ezz, er⟩ := bind_some er
  obtain ⟨z, ez, eq⟩ := bind_some ezz
  cases eq
  cases er
  have q' : FinOk X ρ σ F H De (fr (z, fd)) := q
  rw [hf] at q'
  exact PSs.to (pss_one (ps_ret pE)) (h z ez σ F H Rl _ fun v F1 H1 x1 d1 => q' v F1 H1 (Fx.of (Fr.of_ext x1) x1.fh) ((lentAt_one i hρ).lent (Rl.ext x1)) d1)
theorem n1_fput {m : Option Int} {kk} {p3 : Pos} (up : Int → Fd) (n : Nm X.N X.env.scope i x) (h : PV X ρ e m (aD dI)) (hρ : ρ[i]? = some (.brw p (encF fd))) (hk : ixN (encF fd).length k = some j) (hu : ∀ z, (encF fd).set j (dI z) = encF (up z))
    (hs : swapsWithSole [.Subscript (.Name x pos') (.Constant (.int k) kk p3) p2] e pos.line X.env = pure false := by rfl) (hw : swappedStores [.Subscript (.Name x pos') (.Constant (.int k) kk p3) p2] e X.env = pure none := by rfl) (hpg : ∀ {to ti : TE}, PE X (.Name x pos') to → PE X (.Constant (.int k) kk p3) ti → PG X (.Subscript (.Name x pos') (.Constant (.int k) kk p3) p2) (gSub to ti rSetL) := by intro _ _ h1 h2; exact pg_sub h1 h2 set_list) :
    N1 X ρ (.Assign [.Subscript (.Name x pos') (.Constant (.int k) kk p3) p2] e pos) m (fun z => ρ.set i (.brw p (encF (up z)))) := .mk fun _ fr => .mk fun r er σ F H Rl De q => by
  obtain ⟨z, ez, er⟩ := bind_some er
  cases er
  refine PS.to (ps_asg pE (hpg (pe_var n.hN n.hv n.hd n.hcd) pe_int) hs hw) (h z ez σ F H Rl _ fun v F1 H1 x1 d1 => ?_)
  obtain ⟨vs, e0, hp, hf, hd⟩ := (Rl.ext x1).at_ i _ hρ
  have hl : vs.length = (encF fd).length := DpAll.length hd
  have hd' : DpAll X.K F1 (vs.set j v) (encF (up z)) := by
    rw [← hu]
    exact DpAll.set d1 j hd
  obtain ⟨R', f'⟩ := (Rl.ext x1).changeB hρ hd'
  exact ⟨.ref p, e0, p, vs, k, j, rfl, rfl, hp, by rw [hl]; exact hk, q σ F1 _ R' ((Fr.of_ext x1).trans f')⟩
theorem n1_faug {m : Option Int} {kk} {p3 : Pos} {op : Operator} {ip : Int → Int → Int} {y : Int} (up : Int → Fd) (n : Nm X.N X.env.scope i x) (hip : PIp X op (ipI ip)) (h : PV X ρ e m (aD dI)) (hρ : ρ[i]? = some (.brw p (encF fd))) (hk : ixN (encF fd).length k = some j) (hy : (encF fd)[j]? = some (dI y)) (hu : ∀ z, (encF fd).set j (dI z) = encF (up z))
    (ha : ∀ ov iv new, augStore (.Constant (.int k) kk p3) ov iv new = (do holding [new, ov, iv] (setItem ov iv new); release [new, ov, iv] []; pure .next) := by intros; rfl) :
    N1 X ρ (.AugAssign (.Subscript (.Name x pos') (.Constant (.int k) kk p3) p2) op e pos) (m.bind fun z => some (ip y z)) (fun z => ρ.set i (.brw p (encF (up z)))) := .mk fun _ fr => .mk fun r er σ F H Rl De q => by
  obtain ⟨zz, ezz, er⟩ := bind_some er
  obtain ⟨z, ez, eq⟩ := bind_some ezz
  cases eq
  cases er
  refine PS.to (ps_augS (pe_var n.hN n.hv n.hd n.hcd) pe_int pget_list pE hip set_list ha) ?_
  obtain ⟨vs, e0, hp, hf, hd⟩ := Rl.at_ i _ hρ
  obtain ⟨v1, hv1, dv1⟩ := DpAll.get' hd hy
  have hl : vs.length = (encF fd).length := DpAll.length hd
  have hat : atI vs k = some v1 := by
    unfold atI
    rw [hl, hk]
    exact hv1
  refine ⟨.ref p, e0, p, vs, k, v1, rfl, rfl, SqL.of hp, hat, h z ez σ F H Rl _ fun v2 F2 H2 x2 d2 => ?_⟩
  refine ⟨y, z, dp_int dv1, dp_int d2, ?_⟩
  have hd' : DpAll X.K F2 (vs.set j (.int (ip y z))) (encF (up (ip y z))) := by
    rw [← hu]
    exact DpAll.set (.int _) j (DpAll.mono x2.ff hd)
  obtain ⟨R', f'⟩ := (Rl.ext x2).changeB hρ hd'
  exact ⟨p, vs, k, j, rfl, rfl, x2.hh _ _ hp, by rw [hl]; exact hk, q σ F2 _ R' ((Fr.of_ext x2).trans f')⟩
end
/-- a new feed -/
def feed0 (script : List Int) : Fd := ⟨script, 0, 0, 1⟩
/-- the next cell is taken in -/
def draw1 (fd : Fd) : Option Fd :=
  (andM (eqT fd.big 0) ((lenT fd.cells).bind fun n => ltI fd.at_ n)).bind fun k => if k then
    (((atI fd.cells fd.at_).bind intI).bind absI).bind fun cell =>
    let fd : Fd := ⟨fd.cells, fd.at_ + 1, fd.big, fd.seed⟩
    (((powI 10 18).bind fun t => geI cell t).bind fun k => if k then some (⟨fd.cells, fd.at_, cell, fd.seed⟩ : Fd)
      else (((((mulI fd.seed 48271).bind fun a => (mulI cell 69621).bind fun b => addI a b).bind fun a => addI a fd.at_).bind intI).bind fun a => modI a 2147483647).bind fun s => some (⟨fd.cells, fd.at_, fd.big, s⟩ : Fd)).bind fun fd => some fd
  else some fd
def draw2 (fd : Fd) (many : Int) : Option (Int × Fd) :=
  (gtI fd.big 0).bind fun k => if k then
    ((intI fd.big).bind fun a => modI a many).bind fun told => (divI fd.big many).bind fun big => some (told, ⟨fd.cells, fd.at_, big, fd.seed⟩)
  else ((((mulI fd.seed 16807).bind fun a => addI a 12345).bind intI).bind fun a => modI a 2147483647).bind fun s =>
    let fd : Fd := ⟨fd.cells, fd.at_, fd.big, s⟩
    ((((mulI fd.seed fd.seed).bind fun a => addI a fd.seed).bind intI).bind fun a => modI a 2147483629).bind fun mixed =>
    ((divI mixed 11).bind fun a => modI a many).bind fun r => some (r, fd)
def draw (fd : Fd) (many : Int) : Option (Int × Fd) := (draw1 fd).bind fun fd => draw2 fd many

section
variable {α β R S : Type} {X : Cx} {ρ : Rho} {e : Expr} {sts : List Stmt} {fr : R → Fin} {E : S → Rho}
theorem pn_map {m : Option α} {f : α → List D} {f' : β → List D} (g : α → β) (h : PN X ρ e m f) (hg : ∀ x, f' (g x) = f x) : PN X ρ e (m.bind fun x => some (g x)) f' := .mk fun r er σ F H Rl Q q => by
  obtain ⟨x, ex, er⟩ := bind_some er
  cases er
  exact h x ex σ F H Rl Q fun p vs F' H' x' hn hp hf d => q p vs F' H' x' hn hp hf (by rw [hg]; exact d)
theorem pv_map {m : Option α} {f : α → D} {f' : β → D} (g : α → β) (h : PV X ρ e m (aD f)) (hg : ∀ x, f' (g x) = f x) : PV X ρ e (m.bind fun x => some (g x)) (aD f') := .mk fun r er σ F H Rl Q q => by
  obtain ⟨x, ex, er⟩ := bind_some er
  cases er
  exact h x ex σ F H Rl Q fun v F' H' x' d => q v F' H' x' (by show Dp _ _ _ (f' (g x)); rw [hg]; exact d)
theorem sr_ex {m : Option R} (h : ∃ m', SR X ρ sts m' fr ∧ m' = m) : SR X ρ sts m fr := by
  obtain ⟨m', h, rfl⟩ := h
  exact h
theorem sn_ex {m : Option S} (h : ∃ m', SN X ρ sts m' E ∧ m' = m) : SN X ρ sts m E := by
  obtain ⟨m', h, rfl⟩ := h
  exact h
end
theorem b_len : bootBuiltins "len" = some (.builtin "len") := by decide +kernel
theorem b_abs : bootBuiltins "abs" = some (.builtin "abs") := by decide +kernel
theorem b_max : bootBuiltins "max" = some (.builtin "max") := by decide +kernel
theorem b_min : bootBuiltins "min" = some (.builtin "min") := by decide +kernel
theorem b_sum : bootBuiltins "sum" = some (.builtin "sum") := by decide +kernel
theorem b_any : bootBuiltins "any" = some (.builtin "any") := by decide +kernel
theorem b_all : bootBuiltins "all" = some (.builtin "all") := by decide +kernel
theorem b_sorted : bootBuiltins "sorted" = some (.builtin "sorted") := by decide +kernel
theorem b_isinstance : bootBuiltins "isinstance" = some (.builtin "isinstance") := by decide +kernel
theorem b_repr : bootBuiltins "repr" = some (.builtin "repr") := by decide +kernel
theorem b_int : bootBuiltins "int" = some (.type "int") := by decide +kernel
theorem b_bool : bootBuiltins "bool" = some (.type "bool") := by decide +kernel
theorem b_str : bootBuiltins "str" = some (.type "str") := by decide +kernel
theorem b_list : bootBuiltins "list" = some (.type "list") := by decide +kernel
theorem b_tuple : bootBuiltins "tuple" = some (.type "tuple") := by decide +kernel
theorem b_dict : bootBuiltins "dict" = some (.type "dict") := by decide +kernel

/-! ### statements that change an own list: as N1 -/
section
variable {α β γ S R : Type} {X : Cx} {ρ : Rho} {e c elt iter tg : Expr} {pos pos' p2 px py : Pos} {i j : Nat} {x y : Str} {ifs : List Expr} {scope : Scope} {own : List (Str × Nat)}
theorem n1_put {xs : List α} {f : α → D} {m : Option α} {mk : Option Int} (n : Nm X.N X.env.scope i x) (h : PV X ρ e m (aD f)) (hk : PV X ρ c mk (aD dI)) (hρ : ρ[i]? = some (.own (xs.map f)))
    (hs : swapsWithSole [.Subscript (.Name x pos') c p2] e pos.line X.env = pure false := by rfl) (hw : swappedStores [.Subscript (.Name x pos') c p2] e X.env = pure none := by rfl) (hpg : ∀ {to ti : TE}, PE X (.Name x pos') to → PE X c ti → PG X (.Subscript (.Name x pos') c p2) (gSub to ti rSetL) := by intro _ _ h1 h2; exact pg_sub h1 h2 set_list) :
    N1 X ρ (.Assign [.Subscript (.Name x pos') c p2] e pos) (m.bind fun y => mk.bind fun k => setAt xs k y) (fun ys => ρ.set i (.own (ys.map f))) := .mk fun _ fr => s1_put h hk hρ n.hN n.hv n.hd n.hcd hs hw hpg
theorem n1_augS {op : Operator} {ip : Int → Int → Int} {xs : List Int} {m mk : Option Int} (n : Nm X.N X.env.scope i x) (hip : PIp X op (ipI ip)) (h : PV X ρ e m (aD dI)) (hk : PV X ρ c mk (aD dI)) (hρ : ρ[i]? = some (.own (xs.map dI)))
    (ha : ∀ ov iv new, augStore c ov iv new = (do holding [new, ov, iv] (setItem ov iv new); release [new, ov, iv] []; pure .next) := by intros; rfl) :
    N1 X ρ (.AugAssign (.Subscript (.Name x pos') c p2) op e pos) (mk.bind fun k => m.bind fun z => augAt ip xs k z) (fun ys => ρ.set i (.own (ys.map dI))) := .mk fun _ fr => s1_augS hip h hk hρ n.hN n.hv n.hd n.hcd ha
theorem n1_append {xs : List α} {f : α → D} {m : Option α} {apos cpos : Pos} (n : Nm X.N X.env.scope i x) (h : PV X ρ e m (aD f)) (hρ : ρ[i]? = some (.own (xs.map f)))
    (hs : swapsWith (.Call (.Attribute (.Name x pos') "append" apos) [e] [] cpos) none pos.line X.env = pure false := by rfl)
    (hbase : attributeBase (.Name x pos') "append" X.env (eval (.Name x pos') X.env) = eval (.Name x pos') X.env := by rfl)
    (hfew : ((backTo cpos (starEach [e] X.env)).all (fun x => !x.1) && (backToKw cpos (keywordEach [] X.env)).all (fun x => x.1.isSome) && decide (([e] : List Expr).length + ([] : List Keyword).length + (if ([] : List Keyword).isEmpty then 0 else 1) < 30)) = true := by rfl)
    (hline : (apos.endLine == cpos.line) = true := by rfl) (hse : starEach [e] X.env = (false, eval e X.env) :: starEach [] X.env := by rfl) (hplain : (backTo cpos (starEach [] X.env)).any (·.1) = false := by rfl) :
    N1 X ρ (.Expr (.Call (.Attribute (.Name x pos') "append" apos) [e] [] cpos) pos) (m.bind fun y => appT xs y) (fun ys => ρ.set i (.own (ys.map f))) := .mk fun _ fr => s1_append (hs := hs) (hbase := hbase) (hfew := hfew) (hline := hline) (hse := hse) (hplain := hplain) h hρ n.hN n.hv n.hd n.hcd
theorem n1_extend {xs : List α} {f : α → D} {f1 : List α → AD} {m : Option (List α)} {apos cpos : Pos} (n : Nm X.N X.env.scope i x) (h : PV X ρ e m f1) (hρ : ρ[i]? = some (.own (xs.map f))) (h1 : ∀ xs, (f1 xs).dat = .list (xs.map f) := by intro _; rfl)
    (hs : swapsWith (.Call (.Attribute (.Name x pos') "extend" apos) [e] [] cpos) none pos.line X.env = pure false := by rfl)
    (hbase : attributeBase (.Name x pos') "extend" X.env (eval (.Name x pos') X.env) = eval (.Name x pos') X.env := by rfl)
    (hfew : ((backTo cpos (starEach [e] X.env)).all (fun x => !x.1) && (backToKw cpos (keywordEach [] X.env)).all (fun x => x.1.isSome) && decide (([e] : List Expr).length + ([] : List Keyword).length + (if ([] : List Keyword).isEmpty then 0 else 1) < 30)) = true := by rfl)
    (hline : (apos.endLine == cpos.line) = true := by rfl) (hse : starEach [e] X.env = (false, eval e X.env) :: starEach [] X.env := by rfl) (hplain : (backTo cpos (starEach [] X.env)).any (·.1) = false := by rfl) :
    N1 X ρ (.Expr (.Call (.Attribute (.Name x pos') "extend" apos) [e] [] cpos) pos) (m.bind fun y => catT xs y) (fun ys => ρ.set i (.own (ys.map f))) := .mk fun _ fr => s1_extend (hs := hs) (hbase := hbase) (hfew := hfew) (hline := hline) (hse := hse) (hplain := hplain) h hρ n.hN n.hv h1 (hd := n.hd) (hcd := n.hcd)
theorem n1_reverse {xs : List α} {f : α → D} {apos cpos : Pos} (n : Nm X.N X.env.scope i x) (hρ : ρ[i]? = some (.own (xs.map f)))
    (hs : swapsWith (.Call (.Attribute (.Name x pos') "reverse" apos) [] [] cpos) none pos.line X.env = pure false := by rfl)
    (hbase : attributeBase (.Name x pos') "reverse" X.env (eval (.Name x pos') X.env) = eval (.Name x pos') X.env := by rfl) (hline : (apos.endLine == cpos.line) = true := by rfl) :
    N1 X ρ (.Expr (.Call (.Attribute (.Name x pos') "reverse" apos) [] [] cpos) pos) (some xs.reverse) (fun ys => ρ.set i (.own (ys.map f))) := .mk fun _ fr => s1_reverse hρ n.hN n.hv hs n.hd n.hcd hbase hline
theorem n1_par {x y : Str} {a b : Expr} {ma : Option α} {mb : Option β} {f : α → D} {g : β → D} {pt : Pos} {kt k2 pt2} (n1 : Nm X.N X.env.scope i x) (n2 : Nm X.N X.env.scope j y) (ha : PV X ρ a ma (aD f)) (hb : PV X ρ b mb (aD g)) (hc : X.calm = true) (hN : X.N.Nodup) (hij : i ≠ j)
    (hx : X.env.scope.names.lookup x = some .local) (hy : X.env.scope.names.lookup y = some .local) 
    (hpar : ∀ {ta : TA}, PA X [a, b] ta → PS X (.Assign [.Tuple [.Name x px, .Name y py] kt pt] (.Tuple [a, b] k2 pt2) pos) (tPar i j ta)) (hs : starEach [a, b] X.env = (false, eval a X.env) :: starEach [b] X.env := by rfl) (hs2 : starEach [b] X.env = (false, eval b X.env) :: starEach [] X.env := by rfl) :
    N1 X ρ (.Assign [.Tuple [.Name x px, .Name y py] kt pt] (.Tuple [a, b] k2 pt2) pos) (ma.bind fun z => mb.bind fun w => some (z, w)) (fun z => (ρ.set i (.val (f z.1))).set j (.val (g z.2))) := .mk fun _ fr => s1_par ha hb hc hN n1.hN n2.hN hij hx hy hs hs2 hpar
theorem n1_lc {spos : Pos} {fx : γ → D} {f : β → D} {g : TG} {u : γ → Rho → Rho} {mi : Option (List γ)} {mt : γ → Option Bool} {me : γ → Option β} (n : Nm X.N X.env.scope i x) (hyl : X.env.scope.names.lookup x = some .local) (hc : X.calm = true) (hN : X.N.Nodup) (hi : PIt X ρ tg iter mi fx false) (ok : BlkOk X.N X.env.scope scope own)
    (hg : ∀ s H C cl fp, PG (blkX X scope s H C cl fp) tg g) (gv : GV X.K g fx u (own.map (·.2))) (ht : ∀ x s H C cl fp, PTs' (blkX X scope s H C cl fp) (u x (wipeR ρ (own.map (·.2)))) ifs (mt x))
    (he : ∀ x s H C cl fp, PV (blkX X scope s H C cl fp) (u x (wipeR ρ (own.map (·.2)))) elt (me x) (aD f)) 
    (hsw : swapsWith (.ListComp elt [⟨tg, iter, ifs, 0⟩] scope pos) (some (.Name x pos')) pos.line X.env = pure true := by rfl) (hsl : pos.line = spos.line := by rfl) (hs : ∀ x, foldedSetIterable iter X.env x = pure x := by intro _; rfl) :
    N1 X ρ (.Assign [.Name x pos'] (.ListComp elt [⟨tg, iter, ifs, 0⟩] scope pos) spos) (mi.bind fun its => compM its mt me) (fun z => ρ.set i (.val (dL f z))) := .mk fun _ fr => s1_lc hc hN n.hN hyl hsw hi ok hg gv ht he hsl hs
theorem n1_lcN {spos : Pos} {fx : γ → D} {f : β → D} {g : TG} {u : γ → Rho → Rho} {mi : Option (List γ)} {mt : γ → Option Bool} {me : γ → Option β} (n : Nm X.N X.env.scope i x) (hyl : X.env.scope.names.lookup x = some .local) (hc : X.calm = true) (hN : X.N.Nodup) (hl : i < ρ.length) (hi : PIt X ρ tg iter mi fx false) (ok : BlkOk X.N X.env.scope scope own)
    (hg : ∀ s H C cl fp, PG (blkX X scope s H C cl fp) tg g) (gv : GV X.K g fx u (own.map (·.2))) (ht : ∀ x s H C cl fp, PTs' (blkX X scope s H C cl fp) (u x (wipeR ρ (own.map (·.2)))) ifs (mt x))
    (he : ∀ x s H C cl fp, PV (blkX X scope s H C cl fp) (u x (wipeR ρ (own.map (·.2)))) elt (me x) (aD f)) 
    (hsw : swapsWith (.ListComp elt [⟨tg, iter, ifs, 0⟩] scope pos) (some (.Name x pos')) pos.line X.env = pure true := by rfl) (hsl : pos.line = spos.line := by rfl) (hs : ∀ x, foldedSetIterable iter X.env x = pure x := by intro _; rfl) :
    N1 X ρ (.Assign [.Name x pos'] (.ListComp elt [⟨tg, iter, ifs, 0⟩] scope pos) spos) (mi.bind fun its => compM its mt me) (fun z => ρ.set i (.own (z.map f))) := .mk fun _ fr => s1_lcN hc hN n.hN hyl hl hsw hi ok hg gv ht he hsl hs
end

/-! ### the defs of the top, in a bundle -/
/-- a def as it stands behind the top -/
structure Df (K : PySem.W.Frag) (mg : Str → Option Value) (x : Str) (st : Stmt) (ps : List Str) : Prop where
  ex : ∃ (f : Addr) (fd : FuncData), Fun K x x st f fd ∧ Binds K fd ps [] ∧ mg x = some (.ref f)
/-- a def with its contract -/
structure Gf (P : Program) (w : World) (K : PySem.W.Frag) (mg : Str → Option Value) (base : Heap) (k : Nat) (x : Str) (ps : List Str) (sp : Sp) : Prop where
  ex : ∃ (f : Addr) (fd : FuncData), FnOk P w K mg base CX0 k f fd ps sp ∧ Binds K fd ps [] ∧ PySem.W.keepIn K (.ref f) = true ∧ mg x = some (.ref f)
section
variable {P : Program} {w : World} {K : PySem.W.Frag} {mg : Str → Option Value} {base : Heap} {α β : Type} {x : Str} {st : Stmt} {N ps : List Str} {k n : Nat} {enc : α → List D}
theorem Gf.of (D : Df K mg x st ps) {sp : Sp} (h : ∀ f fd, Fun K x x st f fd → FnOk P w K mg base CX0 k f fd ps sp) : Gf P w K mg base k x ps sp := by
  obtain ⟨f, fd, F, b, m⟩ := D.ex
  exact ⟨f, fd, h f fd F, b, F.kp, m⟩
theorem Gf.map {sp sp' : Sp} (G : Gf P w K mg base k x ps sp) (h : ∀ f fd, FnOk P w K mg base CX0 k f fd ps sp → FnOk P w K mg base CX0 k f fd ps sp') : Gf P w K mg base k x ps sp' := by
  obtain ⟨f, fd, F, b, kp, m⟩ := G.ex
  exact ⟨f, fd, h f fd F, b, kp, m⟩
theorem gf_pr {m : α → Option β} {fe : β → D} (D : Df K mg x st ps) (S : FnScope N ps (defScope st)) (hn : n = ps.length) (hN : n ≤ N.length) (hlen : ∀ a, (enc a).length = n)
    (hbody : ∀ (f : Addr) (cdv : Value) (A : Around) (outer : List Env) (s : Shared) (H : Hp) (E : XK), Room k (A.deeper (envOfC x (defScope st) s.heap.objs.size f cdv)) → ∀ a : α,
      SR (bodyX P w K mg base N x st f cdv A outer s H E) ((enc a).map Sl.val ++ List.replicate (N.length - n) Sl.un) (defBody st) (m a) (fun b => .rt (fe b) [])) :
    Gf P w K mg base (k + 1) x ps (spP K n enc m fe) := .of D fun f _ F => fn_pr F S hn hN hlen (hbody f)
theorem gf_nr {m : α → Option β} {fe : β → List PyData} (D : Df K mg x st ps) (S : FnScope N ps (defScope st)) (hn : n = ps.length) (hN : n ≤ N.length) (hlen : ∀ a, (enc a).length = n)
    (hbody : ∀ (f : Addr) (cdv : Value) (A : Around) (outer : List Env) (s : Shared) (H : Hp) (E : XK), Room k (A.deeper (envOfC x (defScope st) s.heap.objs.size f cdv)) → ∀ a : α,
      SR (bodyX P w K mg base N x st f cdv A outer s H E) ((enc a).map Sl.val ++ List.replicate (N.length - n) Sl.un) (defBody st) (m a) (fun b => .rn (fe b) [])) :
    Gf P w K mg base (k + 1) x ps (spN K n enc m fe) := .of D fun f _ F => fn_nr F S hn hN hlen (hbody f)
theorem gf_f {m : Fd → α → Option (β × Fd)} {fe : β → D} (D : Df K mg x st ps) (S : FnScope N ps (defScope st)) (hn : n = ps.length) (hN : n ≤ N.length) (hlen : ∀ a, (enc a).length + 1 = n)
    (hbody : ∀ (f : Addr) (cdv : Value) (A : Around) (outer : List Env) (s : Shared) (H : Hp) (E : XK), Room k (A.deeper (envOfC x (defScope st) s.heap.objs.size f cdv)) → ∀ (p : Addr) (fd : Fd) (a : α),
      SR (bodyX P w K mg base N x st f cdv A outer s H E) (.brw p (encF fd) :: ((enc a).map Sl.val ++ List.replicate (N.length - n) Sl.un)) (defBody st) (m fd a) (fun r => .rt (fe r.1) [(p, encF r.2)])) :
    Gf P w K mg base (k + 1) x ps (spF K n enc m fe) := .of D fun f _ F => fn_f F S hn hN hlen (hbody f)
theorem gf_fn {m : Fd → α → Option (β × Fd)} {fe : β → List PyData} (D : Df K mg x st ps) (S : FnScope N ps (defScope st)) (hn : n = ps.length) (hN : n ≤ N.length) (hlen : ∀ a, (enc a).length + 1 = n)
    (hbody : ∀ (f : Addr) (cdv : Value) (A : Around) (outer : List Env) (s : Shared) (H : Hp) (E : XK), Room k (A.deeper (envOfC x (defScope st) s.heap.objs.size f cdv)) → ∀ (p : Addr) (fd : Fd) (a : α),
      SR (bodyX P w K mg base N x st f cdv A outer s H E) (.brw p (encF fd) :: ((enc a).map Sl.val ++ List.replicate (N.length - n) Sl.un)) (defBody st) (m fd a) (fun r => .rn (fe r.1) [(p, encF r.2)])) :
    Gf P w K mg base (k + 1) x ps (spFN K n enc m fe) := .of D fun f _ F => fn_fn F S hn hN hlen (hbody f)
theorem df_mk {h : Heap} {f : Addr} {od an : Option Addr} {sl : Array (Option Value)} {oc kV dc pm cd ct : Value} (X : K.In h) (G : h.Ns mainGlobals mg) (a : PySem.W.nsIn K mainGlobals x = some (some (.ref f)))
    (l : K.lookup f = some ⟨oc, od, .func (PySem.W.fnOf x x (defArgs st) (defBody st) (defScope st) .none kV dc pm an cd ct), sl⟩) (c : PySem.W.codeIn K cd x = true) (kp : PySem.W.keepIn K (.ref f) = true)
    (hb : ∀ (kV doc pm : Value) (an : Option Addr) (cdv ct : Value) (us : List Value), us.length = ps.length → bindArgs (PySem.W.fnOf x x (defArgs st) (defBody st) (defScope st) .none kV doc pm an cdv ct) ⟨us, []⟩ = pure (ps.zip us)) : Df K mg x st ps :=
  ⟨f, _, fun_mk l c kp, (fun_mk l c kp).binds hb, PySem.W.mg_of X G a⟩
end
section
variable {X : Cx} {ρ : Rho} {α β : Type} {k j n : Nat} {x y : Str} {ps : List Str} {enc : α → List D} {es : List Expr} {e : Expr} {p p1 pos : Pos} {i : Nat} {E : Fd → Rho} {fd0 : Fd}
theorem pv_cg {m : α → Option β} {fr : β → D} {ma : Option α} {fs : α → List AD} (c : Gf X.prog X.w X.K X.mg X.base k x ps (spP X.K n enc m fr)) (hr : Room j X.A) (hk : k ≤ j) (hg : Gl X x)
    (ha : PAr X ρ (e :: es) ma fs) (hd : ∀ a, fs a = (enc a).map AD.d) (hn : ∀ a, (enc a).length = n) (hdb : (x == ("__debug__" : Str)) = false := by decide) (he : starEach (e :: es) X.env = (false, eval e X.env) :: starEach es X.env := by rfl) (hpl : (backTo pos (starEach es X.env)).any (·.1) = false := by rfl) :
    PV X ρ (.Call (.Name x p) (e :: es) [] pos) (ma.bind m) (aD fr) := by
  obtain ⟨f, fd, G, b, kp, hm⟩ := c.ex
  exact pv_callF G (hr.mono hk) hg hm kp b ha hd hn hdb he hpl
theorem pn_cg {m : α → Option β} {fr : β → List D} {ma : Option α} {fs : α → List AD} (c : Gf X.prog X.w X.K X.mg X.base k x ps (spN X.K n enc m fr)) (hr : Room j X.A) (hk : k ≤ j) (hg : Gl X x)
    (ha : PAr X ρ (e :: es) ma fs) (hd : ∀ a, fs a = (enc a).map AD.d) (hn : ∀ a, (enc a).length = n) (hdb : (x == ("__debug__" : Str)) = false := by decide) (he : starEach (e :: es) X.env = (false, eval e X.env) :: starEach es X.env := by rfl) (hpl : (backTo pos (starEach es X.env)).any (·.1) = false := by rfl) :
    PN X ρ (.Call (.Name x p) (e :: es) [] pos) (ma.bind m) fr := by
  obtain ⟨f, fd, G, b, kp, hm⟩ := c.ex
  exact pn_callF G (hr.mono hk) hg hm kp b ha hd hn hdb he hpl
theorem pv_cgS {m : α → Option β} {fr : β → D} {ma : Option α} {fs : α → List AD} (c : Gf X.prog X.w X.K X.mg X.base k x ps (spP X.K n enc m fr)) (hfl : FlatD fr) (hr : Room j X.A) (hk : k ≤ j) (hg : Gl X x)
    (ha : PAr X ρ (e :: es) ma fs) (hd : ∀ a, (fs a).map AD.dat = enc a) (hn : ∀ a, (enc a).length = n) (hdb : (x == ("__debug__" : Str)) = false := by decide) (he : starEach (e :: es) X.env = (false, eval e X.env) :: starEach es X.env := by rfl) (hpl : (backTo pos (starEach es X.env)).any (·.1) = false := by rfl) :
    PV X ρ (.Call (.Name x p) (e :: es) [] pos) (ma.bind m) (aD fr) := by
  obtain ⟨f, fd, G, b, kp, hm⟩ := c.ex
  exact pv_callS G hfl (hr.mono hk) hg hm kp b ha hd hn hdb he hpl
theorem ev_cgF {m : Fd → α → Option (β × Fd)} {fr : β → D} {ma : Option (α × Fd)} {fs : α → List D} (c : Gf X.prog X.w X.K X.mg X.base k x ps (spF X.K n enc m fr)) (hr : Room j X.A) (hk : k ≤ j) (hg : Gl X x)
    (hF : FeedAt E i) (h0 : E fd0 = ρ) (ny : Nm X.N X.env.scope i y) (ha : EAr X ρ E es ma fs) (hd : ∀ a, fs a = enc a) (hn : ∀ a, (enc a).length + 1 = n) (hdb : (x == ("__debug__" : Str)) = false := by decide) (he : starEach (.Name y p1 :: es) X.env = (false, eval (.Name y p1) X.env) :: starEach es X.env := by rfl) (hpl : (backTo pos (starEach es X.env)).any (·.1) = false := by rfl) :
    EV X ρ E (.Call (.Name x p) (.Name y p1 :: es) [] pos) (ma.bind fun r => m r.2 r.1) fr := by
  obtain ⟨f, fd, G, b, kp, hm⟩ := c.ex
  have e0 : fs = enc := funext hd
  subst e0
  exact ev_callF G (hr.mono hk) hg hm kp b hF h0 ny ha hn hdb he hpl
theorem en_cgF {m : Fd → α → Option (β × Fd)} {fr : β → List D} {ma : Option (α × Fd)} {fs : α → List D} (c : Gf X.prog X.w X.K X.mg X.base k x ps (spFN X.K n enc m fr)) (hr : Room j X.A) (hk : k ≤ j) (hg : Gl X x)
    (hF : FeedAt E i) (h0 : E fd0 = ρ) (ny : Nm X.N X.env.scope i y) (ha : EAr X ρ E es ma fs) (hd : ∀ a, fs a = enc a) (hn : ∀ a, (enc a).length + 1 = n) (hdb : (x == ("__debug__" : Str)) = false := by decide) (he : starEach (.Name y p1 :: es) X.env = (false, eval (.Name y p1) X.env) :: starEach es X.env := by rfl) (hpl : (backTo pos (starEach es X.env)).any (·.1) = false := by rfl) :
    EN X ρ E (.Call (.Name x p) (.Name y p1 :: es) [] pos) (ma.bind fun r => m r.2 r.1) fr := by
  obtain ⟨f, fd, G, b, kp, hm⟩ := c.ex
  have e0 : fs = enc := funext hd
  subst e0
  exact en_callF G (hr.mono hk) hg hm kp b hF h0 ny ha hn hdb he hpl
theorem ev_cgP {m : α → Option β} {fr : β → D} {ma : Option (α × Fd)} {fs : α → List D} (c : Gf X.prog X.w X.K X.mg X.base k x ps (spP X.K n enc m fr)) (hr : Room j X.A) (hk : k ≤ j) (hg : Gl X x)
    (ha : EAr X ρ E (e :: es) ma fs) (hd : ∀ a, fs a = enc a) (hn : ∀ a, (enc a).length = n) (hdb : (x == ("__debug__" : Str)) = false := by decide) (he : starEach (e :: es) X.env = (false, eval e X.env) :: starEach es X.env := by rfl) (hpl : (backTo pos (starEach es X.env)).any (·.1) = false := by rfl) :
    EV X ρ E (.Call (.Name x p) (e :: es) [] pos) (ma.bind fun r => (m r.1).bind fun z => some (z, r.2)) fr := by
  obtain ⟨f, fd, G, b, kp, hm⟩ := c.ex
  have e0 : fs = enc := funext hd
  subst e0
  exact ev_callP G (hr.mono hk) hg hm kp b ha hn hdb he hpl
theorem en_cgP {m : α → Option β} {fr : β → List D} {ma : Option (α × Fd)} {fs : α → List D} (c : Gf X.prog X.w X.K X.mg X.base k x ps (spN X.K n enc m fr)) (hr : Room j X.A) (hk : k ≤ j) (hg : Gl X x)
    (ha : EAr X ρ E (e :: es) ma fs) (hd : ∀ a, fs a = enc a) (hn : ∀ a, (enc a).length = n) (hdb : (x == ("__debug__" : Str)) = false := by decide) (he : starEach (e :: es) X.env = (false, eval e X.env) :: starEach es X.env := by rfl) (hpl : (backTo pos (starEach es X.env)).any (·.1) = false := by rfl) :
    EN X ρ E (.Call (.Name x p) (e :: es) [] pos) (ma.bind fun r => (m r.1).bind fun z => some (z, r.2)) fr := by
  obtain ⟨f, fd, G, b, kp, hm⟩ := c.ex
  have e0 : fs = enc := funext hd
  subst e0
  exact en_callP G (hr.mono hk) hg hm kp b ha hn hdb he hpl
/-- a value as a tree -/
theorem pv_D {m : Option α} {f : α → D} (h : PV X ρ e m (aD f)) : PV X ρ e (m.bind fun x => some (f x)) (aD dA) := pv_map f h fun _ => rfl
theorem pv_some {m : Option α} {f : α → D} (h : PV X ρ e m (aD f)) : PV X ρ e (m.bind fun x => some (some x)) (aD (dO f)) := pv_map some h fun _ => rfl
theorem pv_no {m : Option Unit} {f : α → D} (h : PV X ρ e m (aD dU)) : PV X ρ e (m.bind fun _ => some (none : Option α)) (aD (dO f)) := pv_map (fun _ => none) h fun _ => rfl
theorem feed_own (h : ∀ fd, (E fd)[i]? = some (.own (encF fd)) ∧ ∀ fd', E fd' = (E fd).set i (.own (encF fd'))) : FeedAt E i := .inl h
theorem feed_brw {a : Addr} (h : ∀ fd, (E fd)[i]? = some (.brw a (encF fd)) ∧ ∀ fd', E fd' = (E fd).set i (.brw a (encF fd'))) : FeedAt E i := .inr ⟨a, h⟩
end
/-- what law(script) promises -/
def spLaw (K : PySem.W.Frag) : Sp := fun vs H Q _ => ∃ (a : Addr) (ns : List Int), vs = [.ref a] ∧ SqL K H a (ns.map V.int) ∧ ns.length ≤ 63 ∧ ∀ H', Q (.bl true) H'
theorem law_ok {P : Program} {w : World} {K : PySem.W.Frag} {mg : Str → Option Value} {base : Heap} {k : Nat} {f : Addr} {fd : FuncData} {ps : List Str} {m : List Int → Option Bool}
    (G : FnOk P w K mg base CX0 k f fd ps (spP K 1 (fun s : List Int => [dL dI s]) m dB)) (h : ∀ s : List Int, s.length ≤ 63 → m s = some true) : FnOk P w K mg base CX0 k f fd ps (spLaw K) := by
  have to : ∀ vs H Q E, spLaw K vs H Q E → spP K 1 (fun s : List Int => [dL dI s]) m dB vs H Q E := fun vs H Q E ⟨a, ns, ev, hS, hl, q⟩ => by
    subst ev
    refine ⟨H, ns, true, rfl, Same.refl _, .cons ?_ .nil, h ns hl, fun v F' H' x d => ?_⟩
    · refine Dp.lst hS ?_
      rw [show ns.map dI = ns.map PyData.int from rfl]
      exact DpAll.ints ns
    · rw [dp_bl d]
      exact q H'
  exact ⟨fun vs H Q E z => G.len vs H Q E (to vs H Q E z), fun A outer s H args us vs Q E hr e b r z => G.run A outer s H args us vs Q E hr e b r (to vs H Q E z)⟩

/-! ### displays, constants, slices of tuples -/
section
variable {α β γ S R : Type} {X : Cx} {ρ : Rho} {a b e : Expr} {es : List Expr} {pos pos' p2 : Pos} {i j : Nat} {x : Str}
structure PLn (X : Cx) (ρ : Rho) (es : List Expr) (m : Option (List α)) (f : α → D) (n : Nat) : Prop where
  h : PLs X ρ es m f
  len : ∀ xs, m = some xs → xs.length = n
theorem pln_nil {f : α → D} : PLn X ρ [] (some []) f 0 := ⟨pls_nil, fun _ h => by cases h; rfl⟩
theorem pln_cons {f : α → D} {ma : Option α} {mb : Option (List α)} {n : Nat} (ha : PV X ρ a ma (aD f)) (hb : PLn X ρ es mb f n) (hs : starEach (a :: es) X.env = (false, eval a X.env) :: starEach es X.env := by rfl) :
    PLn X ρ (a :: es) (ma.bind fun x => mb.bind fun y => some (x :: y)) f (n + 1) := ⟨pls_cons ha hb.h hs, fun xs h => by
  obtain ⟨x, ex, h⟩ := bind_some h
  obtain ⟨y, ey, h⟩ := bind_some h
  cases h
  rw [List.length_cons, hb.len y ey]⟩
theorem pn_dis {f : α → D} {m : Option (List α)} {n : Nat} (h : PLn X ρ es m f n) (hn : n ≤ 1000 := by decide) : PN X ρ (.List es pos) m (fun xs => xs.map f) := pn_lst h.h fun xs e => by rw [h.len xs e]; exact hn
theorem pv_disT {x1} {f : α → D} {m : Option (List α)} {n : Nat} (h : PLn X ρ es m f n) (hn : n ≤ 1000 := by decide) : PV X ρ (.Tuple es x1 pos) m (aD (dT f)) := pv_tupL h.h fun xs e => by rw [h.len xs e]; exact hn
/-- a constant of the top -/
structure Ct (K : PySem.W.Frag) (mg : Str → Option Value) (x : Str) (d : D) : Prop where
  ex : ∃ (v : V) (u : Value), mg x = some u ∧ RelV v u ∧ ∀ F, Dp K F v d
theorem pv_ct {f : α → D} {z : α} (c : Ct X.K X.mg x (f z)) (hg : Gl X x) (hdb : (x == ("__debug__" : Str)) = false := by decide) : PV X ρ (.Name x pos) (some z) (aD f) := by
  obtain ⟨v, u, hm, r, hd⟩ := c.ex
  exact pv_glob hg hm r hd hdb
theorem ct_int {K : PySem.W.Frag} {mg : Str → Option Value} {h : Heap} {n : Int} {t} (X : K.In h) (G : h.Ns mainGlobals mg) (a : PySem.W.nsIn K mainGlobals x = some (some (.int n t))) : Ct K mg x (dI n) := ⟨.int n, _, PySem.W.mg_of X G a, ⟨t, rfl⟩, fun _ => .int n⟩
theorem ct_str {K : PySem.W.Frag} {mg : Str → Option Value} {h : Heap} {n : Str} {t} (X : K.In h) (G : h.Ns mainGlobals mg) (a : PySem.W.nsIn K mainGlobals x = some (some (.str n t))) : Ct K mg x (dS n) := ⟨.str n, _, PySem.W.mg_of X G a, ⟨t, rfl⟩, fun _ => .str n⟩
theorem ct_tup {K : PySem.W.Frag} {mg : Str → Option Value} {h : Heap} {c : Addr} {od : Option Addr} {its : Array Value} {n : Nat} {sl : Array (Option Value)} {vs : List V} {ds : List D} (X : K.In h) (G : h.Ns mainGlobals mg) (a : PySem.W.nsIn K mainGlobals x = some (some (.ref c)))
    (l : K.lookup c = some ⟨.type "tuple", od, .seq its n, sl⟩) (hs : its.size ≤ 1000) (hv : Vals vs its.toList) (hd : ∀ F, DpAll K F vs ds) : Ct K mg x (.tuple ds) :=
  ⟨.ref c, _, PySem.W.mg_of X G a, rfl, fun F => .tup (.inr ⟨_, its, n, l, rfl, rfl, Nat.le_of_lt (small1000 hs), hv⟩) (hd F)⟩
theorem vals_int {vs : List V} {us : List Value} {n : Int} {t} (h : Vals vs us) : Vals (.int n :: vs) (.int n t :: us) := .cons ⟨t, rfl⟩ h
theorem vals_str {vs : List V} {us : List Value} {n : Str} {t} (h : Vals vs us) : Vals (.str n :: vs) (.str n t :: us) := .cons ⟨t, rfl⟩ h
/-- a tuple of written size, as a list of its items -/
theorem pv_asV {m : Option α} {f1 : α → D} {f : β → D} (ds : α → List β) (h : PV X ρ e m (aD f1)) (hd : ∀ x, dT f (ds x) = f1 x) : PV X ρ e (m.bind fun x => some (ds x)) (aD (dT f)) := pv_map ds h hd
theorem pv_sliceT {f1 : α → D} {ds : α → List D} {ma : Option α} {g : α → β} {f2 : β → D} {lo hi : Option Int} {l h : Option Expr} (ha : PV X ρ a ma (aD f1)) (hl : POp X ρ l (some lo)) (hh : POp X ρ h (some hi)) (h1 : ∀ x, f1 x = .tuple (ds x)) (h2 : ∀ x, f2 (g x) = .tuple (cutL (ds x) lo hi))
    (hne : ∀ x, ¬ (HT.sIx (ds x).length 0 lo = 0 ∧ HT.sIx (ds x).length (ds x).length hi = (ds x).length)) :
    PV X ρ (.Subscript a (.Slice l h none p2) pos) (ma.bind fun x => some (g x)) (aD f2) := .mk fun z ez σ F H R Q q => by
  obtain ⟨x, ex, ez⟩ := bind_some ez
  cases ez
  obtain ⟨tl, pl, kl⟩ := hl _ rfl
  obtain ⟨th, ph, kh⟩ := hh _ rfl
  refine PE.to (pe_slice sl_tup pE pl ph) (ha x ex σ F H R _ fun v F1 H1 x1 d1 => kl σ F1 H1 (R.ext x1) _ fun F2 H2 x2 => kh σ F2 H2 (R.ext (x1.trans x2)) _ fun F3 H3 x3 => ?_)
  have d3 : Dp X.K F3 v (.tuple (ds x)) := by rw [← h1]; exact Dp.mono (x2.trans x3).ff d1
  obtain ⟨p, vs, rfl, hs, hd⟩ := dp_tup d3
  have hlen : vs.length = (ds x).length := DpAll.length hd
  refine ⟨p, vs, rfl, sqT_mono x3.fh hs, by rw [hlen]; exact hne x, fun l hl => ?_⟩
  have xn := Ext.new x3.fh hl (.tup (cutV vs lo hi))
  refine q _ _ _ (x1.trans (x2.trans (x3.trans xn))) ?_
  show Dp _ _ _ (f2 (g x))
  rw [h2]
  exact .tup (.inl (.inl upd_same)) (DpAll.mono xn.ff (DpAll.cut hd lo hi))
theorem len_tup {m : Option α} {f1 : α → D} {f : β → D} (ds : α → List β) (h : PV X ρ e m (aD f1)) (hd : ∀ x, dT f (ds x) = f1 x) : PV X ρ e (m.bind fun x => some (ds x)) (aD (dT f)) := pv_map ds h hd
/-- law returns: its feed is no one's any more -/
theorem sr_retX {E : Fd → Rho} {m : Option (R × Fd)} {f : R → D} {fr : R → Fin} (h : EV X ρ E e m f) (hf : ∀ r, fr r = .rt (f r) [] := by exact fun _ => rfl) : SR X ρ [.Return (some e) pos] (m.bind fun r => some r.1) fr := .mk fun S E2 => .mk fun r er σ F H Rl De q => by
  obtain ⟨z, ez, er⟩ := bind_some er
  obtain ⟨y, ey, ez⟩ := bind_some ez
  cases er
  cases ez
  have q' : FinOk X ρ σ F H De (fr y.1) := q
  rw [hf] at q'
  exact PSs.to (pss_one (ps_ret pE)) (h y ey σ F H Rl _ fun v F1 H1 R1 g d => q' v F1 H1 (Fx.of g R1.sub) lent_nil d)
/-- a new list is returned, with the feed as it is then -/
theorem sr_retFN {m : Option β} {f : β → List D} {p : Addr} {fd : Fd} {fr : β × Fd → Fin} (h : PN X ρ e m f) (hρ : ρ[i]? = some (.brw p (encF fd))) (hf : ∀ r, fr r = .rn (f r.1) [(p, encF r.2)] := by exact fun _ => rfl) : SR X ρ [.Return (some e) pos] (m.bind fun z => some (z, fd)) fr := .mk fun S E2 => .mk fun r er σ F H Rl De q => by
  obtain ⟨zz, ezz, er⟩ := bind_some er
  obtain ⟨z, ez, eq⟩ := bind_some ezz
  cases eq
  cases er
  have q' : FinOk X ρ σ F H De (fr (z, fd)) := q
  rw [hf] at q'
  refine PSs.to (pss_one (ps_ret pE)) (h z ez σ F H Rl _ fun l vs F1 H1 x1 hn hl hf1 d1 => q' l vs F1 H1 (Fx.of (Fr.of_ext x1) x1.fh) ((lentAt_one i hρ).lent (Rl.ext x1)) (.inl hn) hl hf1 (fun t ht => ?_) d1)
  rw [List.mem_singleton] at ht
  subst ht
  intro e
  obtain ⟨ws, _, hp, _⟩ := Rl.at_ i _ hρ
  have e' : p = l := e
  rw [e', hn] at hp
  cases hp
theorem ov_isB : OpV X (compareOp .Is) (aD dB) (aD dB) eqT dB := OpV.flat op_isBl fun a b c e F H x y s hx hy => by
  cases e; cases dp_bl hx; cases dp_bl hy
  exact ⟨_, fun _ => .bl _, fun Q q => ⟨_, _, rfl, rfl, q⟩⟩
end

/-! ### trees of any kind -/
def isN : D → Bool
  | .none => true
  | _ => false
def isBD (c : Bool) : D → Bool
  | .bool b => b == c
  | _ => false
def lenD : D → Option Int
  | .list xs => some (xs.length : Int)
  | .tuple xs => some (xs.length : Int)
  | _ => none
def ixD : D → Int → Option D
  | .list xs, i => atI xs i
  | .tuple xs, i => atI xs i
  | _, _ => none
def zipD : D → D → Option (List (D × D))
  | .list xs, .list ys => some (xs.zip ys)
  | .tuple xs, .tuple ys => some (xs.zip ys)
  | _, _ => none
theorem dp_isN {K : PySem.W.Frag} {F : Hp} {v : V} {d : D} (h : Dp K F v d) : decide (v = .non) = isN d := by
  cases h <;> first | rfl | exact decide_eq_false (fun z => by cases z)
section
variable {α β γ S R : Type} {X : Cx} {ρ : Rho} {a b e : Expr} {es : List Expr} {pos pos' p p2 : Pos} {i j : Nat} {x : Str}
theorem pv_isNoneA {ma : Option D} {j p2} (ha : PV X ρ a ma (aD dA)) : PV X ρ (.Compare a [.Is] [.Constant .none j p2] pos) (ma.bind fun d => some (isN d)) (aD dB) := .mk fun z ez σ F H R Q q => by
  obtain ⟨x, ex, ez⟩ := bind_some ez
  cases ez
  refine PE.to (pe_cmp (pc_isN pE)) ?_
  exact ha x ex σ F H R _ fun v F1 H1 x1 d1 => q _ F1 H1 x1 (by show Dp _ _ _ (PyData.bool _); rw [dp_isN (show Dp _ _ _ x from d1)]; exact .bl _)
theorem pt_isNoneA {ma : Option D} {j p2} (ha : PV X ρ a ma (aD dA)) : PTe X ρ (.Compare a [.Is] [.Constant .none j p2] pos) (ma.bind fun d => some (isN d)) := .mk fun z ez σ F H R Q q => by
  obtain ⟨x, ex, ez⟩ := bind_some ez
  cases ez
  refine PT.to (pt_cmp (pc_isN pE)) ?_
  exact ha x ex σ F H R _ fun v F1 H1 x1 d1 => by rw [dp_isN (show Dp _ _ _ x from d1)]; exact ⟨_, rfl, q F1 H1 x1⟩
theorem op_isAB : OpR X (compareOp .Is) (fun x y H Q => ∃ c, y = .bl c ∧ (∀ n, x ≠ .ty n) ∧ Q (.bl (decide (x = .bl c))) H) := by
  intro pins s σ H x y v u Q I rx ry h
  obtain ⟨c, rfl, hx, q⟩ := h
  cases (show u = Value.bool c from ry)
  have other : ∀ w : Value, v = w → plainIs w (.bool c) = true → w ≠ .bool c → x ≠ .bl c → wpAny (model X.prog X.w) X.A (compareOp .Is v (.bool c)) (EP X pins σ Q) X.xe s := fun w e hp hn hx => by
    subst e
    exact wpAny_is_other hp hn ⟨.bl false, H, I, rfl, by rw [decide_eq_false hx] at q; exact q⟩
  cases x with
  | non => exact other _ rx rfl (fun z => by cases z) (fun z => by cases z)
  | bl b =>
    by_cases e : b = c
    · subst e
      cases (show v = Value.bool b from rx)
      exact wpAny_is_self rfl ⟨.bl true, H, I, rfl, by simpa using q⟩
    · exact other _ rx rfl (fun z => e (Value.bool.inj z)) (fun z => e (V.bl.inj z))
  | int n => obtain ⟨t, rx⟩ := rx; exact other _ rx rfl (fun z => by cases z) (fun z => by cases z)
  | str n => obtain ⟨t, rx⟩ := rx; exact other _ rx rfl (fun z => by cases z) (fun z => by cases z)
  | byt n => obtain ⟨t, rx⟩ := rx; exact other _ rx rfl (fun z => by cases z) (fun z => by cases z)
  | flt n => obtain ⟨t, rx⟩ := rx; exact other _ rx rfl (fun z => by cases z) (fun z => by cases z)
  | ref n => exact other _ rx rfl (fun z => by cases z) (fun z => by cases z)
  | ty n => exact absurd rfl (hx n)
def isBA (d : D) (c : Bool) : Option Bool := some (isBD c d)
theorem ov_isBA : OpV X (compareOp .Is) (aD dA) (aD dB) isBA dB := OpV.flat op_isAB fun a b c e F H x y s hx hy => by
  cases e; cases dp_bl hy
  have h : Dp X.K F x a := hx
  refine ⟨_, fun _ => .bl _, fun Q q => ⟨b, rfl, ?_, ?_⟩⟩
  · cases h <;> (intro n z; cases z)
  · have e : decide (x = V.bl b) = isBD b a := by
      cases h with
      | bl c =>
        show decide (V.bl c = V.bl b) = (c == b)
        cases c <;> cases b <;> rfl
      | _ => exact decide_eq_false (fun z => by cases z)
    rw [e]
    exact q
theorem cv_lenD : CallV X (.builtin "len") (fun z => [aD dA z]) lenD dI := fun a c ec F H xs Q s hx q => by
  obtain ⟨v, rfl, d⟩ := ad1 hx
  have d' : Dp X.K F v a := d
  cases a with
  | list ds =>
    cases ec
    obtain ⟨p, vs, rfl, hs, hd⟩ := dp_lst d'
    refine CallR.at_ call_len_seq ⟨p, vs, rfl, .inl (s.seq hs), ?_⟩
    rw [DpAll.length hd]
    exact q _ F H (Ext.refl s) (.int _)
  | tuple ds =>
    cases ec
    obtain ⟨p, vs, rfl, hs, hd⟩ := dp_tup d'
    refine CallR.at_ call_len_seq ⟨p, vs, rfl, .inr (sqT_mono s hs), ?_⟩
    rw [DpAll.length hd]
    exact q _ F H (Ext.refl s) (.int _)
  | _ => cases ec
theorem pv_ixAny {ma : Option D} {mi : Option Int} (ha : PV X ρ a ma (aD dA)) (hb : PV X ρ b mi (aD dI)) (hs : PlainIx b) : PV X ρ (.Subscript a b pos) (ma.bind fun d => mi.bind fun i => ixD d i) (aD dA) := .mk fun z ez σ F H R Q q => by
  obtain ⟨x, ex, ez⟩ := bind_some ez
  obtain ⟨i, ei, ez⟩ := bind_some ez
  refine PE.to (pe_ix ix_seq pE pE hs) (ha x ex σ F H R _ fun v F1 H1 x1 d1 => hb i ei σ F1 H1 (R.ext x1) _ fun u F2 H2 x2 d2 => ?_)
  have d' : Dp X.K F2 v x := Dp.mono x2.ff d1
  cases x with
  | list ds =>
    obtain ⟨p, vs, rfl, hs, hd⟩ := dp_lst d'
    obtain ⟨w, hw, hdw⟩ := DpAll.atI hd (show atI ds i = some z from ez)
    exact .inl ⟨p, vs, i, w, rfl, dp_int d2, x2.fh.seq hs, hw, q w F2 H2 (x1.trans x2) hdw⟩
  | tuple ds =>
    obtain ⟨p, vs, rfl, hs, hd⟩ := dp_tup d'
    obtain ⟨w, hw, hdw⟩ := DpAll.atI hd (show atI ds i = some z from ez)
    exact .inr (.inl ⟨p, vs, i, w, rfl, dp_int d2, sqT_mono x2.fh hs, hw, q w F2 H2 (x1.trans x2) hdw⟩)
  | _ => cases ez
theorem walk_zipT {K : PySem.W.Frag} {a b : Addr} {xs ys : List V} {n : Nat} (hn : n = min xs.length ys.length) : Walk (RZ.ItzT K a b) n (fun H => SqT K H a xs ∧ SqT K H b ys) (YPair (fun i => xs[i]?) (fun i => ys[i]?)) := by
  subst hn
  refine ⟨fun i _ hi q => ?_, fun _ q => ⟨xs, ys, q.1, q.2, by omega⟩, fun i H v H' _ q y => ?_⟩
  · have h1 : i < xs.length := by omega
    have h2 : i < ys.length := by omega
    exact ⟨xs, ys, xs[i], ys[i], q.1, q.2, by simp [h1], by simp [h2]⟩
  · obtain ⟨T, x, z, h1, h2, h3, h4, h5⟩ := y
    exact ⟨T, x, z, h1, h2, h3, h4 xs q.1, h5 ys q.2⟩
theorem yields_zip {K : PySem.W.Frag} {G : Hp → Hp → Prop} {J : It} {xs ys : List D} {va vb : List V} {Gd : Hp → Prop} (hG : ∀ F H, G F H → Gd H ∧ DpAll K F va xs ∧ DpAll K F vb ys)
    (w : Walk J (xs.zip ys).length Gd (YPair (fun i => va[i]?) (fun i => vb[i]?))) : Yields K J G ((xs.zip ys).map (d2 dA dA)) :=
  yields_pair (xs := fun i => va[i]?) (ys := fun i => vb[i]?) (fun i F' H' hi gg => w.goes i H' hi (hG _ _ gg).1) (fun F' H' gg => w.stops H' (hG _ _ gg).1) (fun i F' H' v H'' hi gg y => w.yields i H' v H'' hi (hG _ _ gg).1 y) fun i F' H' z x y gg hz hx hy => by
    obtain ⟨hz1, hz2⟩ := List.getElem?_zip_eq_some.mp hz
    obtain ⟨dx, e1, k1⟩ := DpAll.get (hG _ _ gg).2.1 hx
    obtain ⟨dy, e2, k2⟩ := DpAll.get (hG _ _ gg).2.2 hy
    rw [hz1] at e1
    rw [hz2] at e2
    cases e1
    cases e2
    exact ⟨k1, k2⟩
theorem pit_zipD {ma mb : Option D} {tpos : Pos} {elts : List Expr} {kk : Nat} (hg : Gl X "zip") (hm : X.mg "zip" = none) (ha : PV X ρ a ma (aD dA)) (hb : PV X ρ b mb (aD dA))
    (hs : starEach [a, b] X.env = [(false, eval a X.env), (false, eval b X.env)] := by rfl) (hs2 : starEach [b] X.env = [(false, eval b X.env)] := by rfl) (hpl : (backTo pos (starEach [b] X.env)).any (·.1) = false := by rfl) :
    PIt X ρ (.Tuple elts kk tpos) (.Call (.Name "zip" p) [a, b] [] pos) (ma.bind fun x => mb.bind fun y => zipD x y) (d2 dA dA) true := .mk fun its e σ F H R Rq q => by
  obtain ⟨xd, ex, e⟩ := bind_some e
  obtain ⟨yd, ey, e⟩ := bind_some e
  have hs1 : starEach [a, b] X.env = (false, eval a X.env) :: starEach [b] X.env := by rw [hs, hs2]
  refine PI.to (RZ.pi_zipA hg hm (pa_cons pE (pa_cons pE pa_nil hs2) hs1) hs1 hpl) (ha xd ex σ F H R _ fun v F1 H1 x1 d1 => hb yd ey σ F1 H1 (R.ext x1) _ fun u F2 H2 x2 d2 => ?_)
  have d1' : Dp X.K F2 v xd := Dp.mono x2.ff d1
  have d2' : Dp X.K F2 u yd := d2
  cases xd with
  | list xs =>
    cases yd with
    | list ys =>
      cases e
      obtain ⟨pa, va, rfl, sa, da⟩ := dp_lst d1'
      obtain ⟨pb, vb, rfl, sb, db⟩ := dp_lst d2'
      exact ⟨pa, pb, va, vb, rfl, .inl ⟨x2.fh.seq sa, x2.fh.seq sb, q _ F2 H2 (x1.trans x2) (yields_zip (fun F' H' gg => ⟨⟨gg.2.seq (gg.1.seq sa), gg.2.seq (gg.1.seq sb)⟩, DpAll.mono gg.1 da, DpAll.mono gg.1 db⟩) (walk_zip (by rw [List.length_zip, DpAll.length da, DpAll.length db])))⟩⟩
    | _ => cases e
  | tuple xs =>
    cases yd with
    | tuple ys =>
      cases e
      obtain ⟨pa, va, rfl, sa, da⟩ := dp_tup d1'
      obtain ⟨pb, vb, rfl, sb, db⟩ := dp_tup d2'
      exact ⟨pa, pb, va, vb, rfl, .inr ⟨sqT_mono x2.fh sa, sqT_mono x2.fh sb, q _ F2 H2 (x1.trans x2) (yields_zip (fun F' H' gg => ⟨⟨sqT_mono gg.2 (sqT_mono gg.1 sa), sqT_mono gg.2 (sqT_mono gg.1 sb)⟩, DpAll.mono gg.1 da, DpAll.mono gg.1 db⟩) (walk_zipT (by rw [List.length_zip, DpAll.length da, DpAll.length db])))⟩⟩
    | _ => cases e
  | _ => cases e
theorem pv_LD {m : Option (List α)} {f : α → D} (h : PV X ρ e m (aL f)) : PV X ρ e (m.bind fun xs => some (dL f xs)) (fun d => match d with | .list ds => .l ds | d => .d d) := .mk fun z ez σ F H Rl Q q => by
  obtain ⟨x, ex, ez⟩ := bind_some ez
  cases ez
  exact h x ex σ F H Rl Q q
end
/-- nothing is asked: a def that may not be called any deeper -/
theorem gf_vac {P : Program} {w : World} {K : PySem.W.Frag} {mg : Str → Option Value} {base : Heap} {α β : Type} {x : Str} {st : Stmt} {ps : List Str} {k n : Nat} {enc : α → List D} {m : α → Option β} {fe : β → D} (D : Df K mg x st ps) (hm : ∀ a, m a = none) : Gf P w K mg base k x ps (spP K n enc m fe) := by
  have no : ∀ vs H Q E, ¬ spP K n enc m fe vs H Q E := fun vs H Q E ⟨_, a, _, _, _, _, e, _⟩ => by rw [hm] at e; cases e
  exact .of D fun f fd F => ⟨fun vs H Q E h => absurd h (no vs H Q E), fun A outer s H args us vs Q E _ _ _ _ h => absurd h (no vs H Q E)⟩
theorem gf_vacN {P : Program} {w : World} {K : PySem.W.Frag} {mg : Str → Option Value} {base : Heap} {α β : Type} {x : Str} {st : Stmt} {ps : List Str} {k n : Nat} {enc : α → List PyData} {m : α → Option β} {fe : β → List PyData} (D : Df K mg x st ps) (hm : ∀ a, m a = none) : Gf P w K mg base k x ps (spN K n enc m fe) := by
  have no : ∀ vs H Q E, ¬ spN K n enc m fe vs H Q E := fun vs H Q E ⟨_, a, _, _, _, _, e, _⟩ => by rw [hm] at e; cases e
  exact .of D fun f fd F => ⟨fun vs H Q E h => absurd h (no vs H Q E), fun A outer s H args us vs Q E _ _ _ _ h => absurd h (no vs H Q E)⟩

/-! ### the law's «same»: asked of twice the same tree -/
mutual
def sd : Nat → D → Bool
  | _, .none => true
  | _, .bool _ => true
  | _, .int _ => true
  | _, .str _ => true
  | n + 1, .list ds => sdAll n ds
  | n + 1, .tuple ds => sdAll n ds
  | _, _ => false
def sdAll : Nat → List D → Bool
  | _, [] => true
  | n, d :: ds => sd n d && sdAll n ds
end
/-- the values of a type are all told alike -/
structure Sm (n : Nat) {α : Type} (f : α → D) : Prop where
  s : ∀ a, sd n (f a) = true
section
variable {α β γ δ : Type} {n : Nat} {f : α → D} {g : β → D} {h : γ → D} {k : δ → D}
theorem sdAll_map (H : Sm n f) (xs : List α) : sdAll n (xs.map f) = true := by
  induction xs with
  | nil => rw [List.map_nil, sdAll]
  | cons x r ih => rw [List.map_cons, sdAll, H.s, ih]; rfl
theorem sm_I : Sm n dI := ⟨fun _ => by show sd n (.int _) = true; rw [sd]⟩
theorem sm_B : Sm n dB := ⟨fun _ => by show sd n (.bool _) = true; rw [sd]⟩
theorem sm_S : Sm n dS := ⟨fun _ => by show sd n (.str _) = true; rw [sd]⟩
theorem sm_U : Sm n dU := ⟨fun _ => by show sd n .none = true; rw [sd]⟩
theorem sm_O (H : Sm n f) : Sm n (dO f) := ⟨fun a => by
  cases a with
  | none => show sd n .none = true; rw [sd]
  | some a => exact H.s a⟩
theorem sm_L (H : Sm n f) : Sm (n + 1) (dL f) := ⟨fun xs => by show sd (n + 1) (.list _) = true; rw [sd, sdAll_map H]⟩
theorem sm_V (H : Sm n f) : Sm (n + 1) (dT f) := ⟨fun xs => by show sd (n + 1) (.tuple _) = true; rw [sd, sdAll_map H]⟩
theorem sm_2 (H1 : Sm n f) (H2 : Sm n g) : Sm (n + 1) (d2 f g) := ⟨fun a => by show sd (n + 1) (.tuple _) = true; rw [sd, sdAll, sdAll, sdAll, H1.s, H2.s]; rfl⟩
theorem sm_3 (H1 : Sm n f) (H2 : Sm n g) (H3 : Sm n h) : Sm (n + 1) (d3 f g h) := ⟨fun a => by show sd (n + 1) (.tuple _) = true; rw [sd, sdAll, sdAll, sdAll, sdAll, H1.s, H2.s, H3.s]; rfl⟩
theorem sm_4 (H1 : Sm n f) (H2 : Sm n g) (H3 : Sm n h) (H4 : Sm n k) : Sm (n + 1) (d4 f g h k) := ⟨fun a => by show sd (n + 1) (.tuple _) = true; rw [sd, sdAll, sdAll, sdAll, sdAll, sdAll, H1.s, H2.s, H3.s, H4.s]; rfl⟩
end
def sameT {α : Type} [DecidableEq α] (p : α × α) : Option Bool := if p.1 = p.2 then some true else none
theorem same_at {P : Program} {w : World} {K : PySem.W.Frag} {mg : Str → Option Value} {base : Heap} {α : Type} [DecidableEq α] {x : Str} {ps : List Str} {k n l : Nat} {f : α → D} {m : PyData × PyData → Option Bool} (G : Gf P w K mg base k x ps (spP K l (fun p : PyData × PyData => [dA p.1, dA p.2]) m dB)) (hm : ∀ d, sd n d = true → m (d, d) = some true) (S : Sm n f) :
    Gf P w K mg base k x ps (spP K l (fun p : α × α => [f p.1, f p.2]) sameT dB) := G.map fun ff fd H => by
  have to : ∀ vs H Q E, spP K l (fun p : α × α => [f p.1, f p.2]) sameT dB vs H Q E → spP K l (fun p : PyData × PyData => [dA p.1, dA p.2]) m dB vs H Q E := fun vs H Q E ⟨F, a, b, h1, h2, h3, h4, h5⟩ => by
    unfold sameT at h4
    split at h4
    · rename_i e
      cases h4
      refine ⟨F, (f a.1, f a.1), true, h1, h2, ?_, hm _ (S.s _), h5⟩
      have h3' : DpAll K F vs [f a.1, f a.2] := h3
      rw [← e] at h3'
      exact h3'
    · cases h4
  exact ⟨fun vs HH Q E z => H.len vs HH Q E (to vs HH Q E z), fun A outer s HH args us vs Q E hr e b r z => H.run A outer s HH args us vs Q E hr e b r (to vs HH Q E z)⟩

/-! ### loops over what an effect gives -/
section
variable {α β γ S R : Type} {X : Cx} {ρ : Rho} {a b e tg iter : Expr} {es : List Expr} {body : List Stmt} {pos pos' p p2 : Pos} {i j : Nat} {x : Str} {E : S → Rho} {fr : R → Fin} {Ef : Fd → Rho}
abbrev EIt0 (X : Cx) (ρ : Rho) (Ef : Fd → Rho) (tg iter : Expr) (m : Option (List γ × Fd)) (f : γ → D) : Prop :=
  ∀ r, m = some r → ∀ (σ : L2.St) (F H : Hp), Rel X.K ρ σ F H → ∀ Rq : It → Hp → Prop, (∀ J F1 H1, Rel X.K (Ef r.2) σ F1 H1 → Fr ρ σ F H (Ef r.2) σ F1 H1 → Yields X.K J (fun F' H' => Same F1 F' ∧ Same F' H') (r.1.map f) → Rq J H1) → tI X tg iter σ H Rq
structure EIt (X : Cx) (ρ : Rho) (Ef : Fd → Rho) (tg iter : Expr) (m : Option (List γ × Fd)) (f : γ → D) : Prop where
  run : EIt0 X ρ Ef tg iter m f
instance (X : Cx) (ρ : Rho) (Ef : Fd → Rho) (tg iter : Expr) (m : Option (List γ × Fd)) (f : γ → D) : CoeFun (EIt X ρ Ef tg iter m f) (fun _ => EIt0 X ρ Ef tg iter m f) := ⟨fun h => h.run⟩
theorem eit_range1 {m : Option (Int × Fd)} (hg : Gl X "range") (hm : X.mg "range" = none) (h : EV X ρ Ef a m dI) (hs : starEach [a] X.env = [(false, eval a X.env)] := by rfl) : EIt X ρ Ef tg (.Call (.Name "range" p) [a] [] pos) (m.bind fun r => (range1 r.1).bind fun its => some (its, r.2)) dI := .mk fun its e σ F H R Rq q => by
  obtain ⟨n, en, e⟩ := bind_some e
  obtain ⟨l, el, e⟩ := bind_some e
  cases e
  obtain ⟨hb, rfl⟩ := ite_some el
  refine PI.to (pi_range1 hg hm (pa_cons pE pa_nil hs) hs) (h n en σ F H R _ fun v F1 H1 R1 g1 d1 => ?_)
  cases dp_int d1
  exact ⟨n.1, rfl, (big_bd hb).1, (big_bd hb).2, q _ F1 H1 R1 g1 yields_range⟩
theorem eit_range2 {m : Option (Int × Fd)} {m' : Fd → Option (Int × Fd)} (hg : Gl X "range") (hm : X.mg "range" = none) (h : EV X ρ Ef a m dI) (h' : ∀ s, EV X (Ef s) Ef b (m' s) dI) (hs : starEach [a, b] X.env = [(false, eval a X.env), (false, eval b X.env)] := by rfl) (hs2 : starEach [b] X.env = [(false, eval b X.env)] := by rfl) :
    EIt X ρ Ef tg (.Call (.Name "range" p) [a, b] [] pos) (m.bind fun r => (m' r.2).bind fun t => (range2 r.1 t.1).bind fun its => some (its, t.2)) dI := .mk fun its e σ F H R Rq q => by
  obtain ⟨n, en, e⟩ := bind_some e
  obtain ⟨k, ek, e⟩ := bind_some e
  obtain ⟨l, el, e⟩ := bind_some e
  cases e
  obtain ⟨hb, rfl⟩ := ite_some el
  have hs1 : starEach [a, b] X.env = (false, eval a X.env) :: starEach [b] X.env := by rw [hs, hs2]
  refine PI.to (pi_range2 hg hm (pa_cons pE (pa_cons pE pa_nil hs2) hs1) hs hs2) (h n en σ F H R _ fun v F1 H1 R1 g1 d1 => h' n.2 k ek σ F1 H1 R1 _ fun u F2 H2 R2 g2 d2 => ?_)
  cases dp_int d1
  cases dp_int d2
  exact ⟨n.1, k.1, rfl, ⟨(big_bd hb.1).1, (big_bd hb.1).2, (big_bd hb.2).1, (big_bd hb.2).2⟩, q _ F2 H2 R2 (g1.trans g2) yields_range⟩
theorem eit_list {m : Option (List γ × Fd)} {f : γ → D} (h : EV X ρ Ef iter m (dL f)) : EIt X ρ Ef tg iter m f := .mk fun its e σ F H R Rq q =>
  PI.to (pi_list pE) (h its e σ F H R _ fun v F1 H1 R1 g1 d1 => by
    obtain ⟨p, vs, rfl, hs, hd⟩ := dp_lst d1
    exact ⟨p, rfl, ⟨vs, R1.sub.seq hs⟩, q _ F1 H1 R1 g1 (yields_list fun F' H' g => ⟨g.2.seq (g.1.seq hs), DpAll.mono g.1 hd⟩)⟩)
theorem eit_tup {m : Option (List γ × Fd)} {f : γ → D} (h : EV X ρ Ef iter m (dT f)) : EIt X ρ Ef tg iter m f := .mk fun its e σ F H R Rq q =>
  PI.to (pi_tup pE) (h its e σ F H R _ fun v F1 H1 R1 g1 d1 => by
    obtain ⟨p, vs, rfl, hs, hd⟩ := dp_tup d1
    exact ⟨p, rfl, ⟨vs, sqT_mono R1.sub hs⟩, q _ F1 H1 R1 g1 (yields_tup fun F' H' g => ⟨sqT_mono g.2 (sqT_mono g.1 hs), DpAll.mono g.1 hd⟩)⟩)
theorem s1_forE {fx : γ → D} {g : TG} {u : γ → Rho → Rho} {vs : List Nat} {mi : Option (List γ × Fd)} {mb : γ → S → Option (Sum S R)} {s0 : Fd → S} (hp : PassesOwn (model X.prog X.w) X.A X.env X.xe) (hc : X.calm = true) (hi : EIt X ρ Ef tg iter mi fx) (hg : PG X tg g) (gv : GV X.K g fx u vs) (h0 : ∀ fd, E (s0 fd) = Ef fd)
    (hb : ∀ x s, SV X (u x (E s)) body (mb x s) E fr) (hbk : ∀ r, (fr r).isBk = false) (hs : ∀ x, foldedSetIterable iter X.env x = pure x := by intro _; rfl) :
    S1 X ρ (.For tg iter body [] pos) (mi.bind fun r => forM r.1 mb (s0 r.2)) E fr := .mk fun r er σ F H Rl De q => by
  obtain ⟨its, eits, er⟩ := bind_some er
  refine PS.to (ps_for hp hc (pI X) hg pSs hs) (hi its eits σ F H Rl _ fun J F1 H1 R1 g1 y => ?_)
  rw [← h0] at R1 g1
  exact for_reading (K := X.K) rfl y R1 gv er hbk (q.pre g1) fun x s r em σ F H R De qq => hb x s r em σ F H R De qq
theorem n1_forE {fx : γ → D} {g : TG} {u : γ → Rho → Rho} {vs : List Nat} {mi : Option (List γ × Fd)} {mb : γ → S → Option S} {s0 : Fd → S} (hp : PassesOwn (model X.prog X.w) X.A X.env X.xe) (hc : X.calm = true) (hi : EIt X ρ Ef tg iter mi fx) (hg : PG X tg g) (gv : GV X.K g fx u vs) (h0 : ∀ fd, E (s0 fd) = Ef fd)
    (hb : ∀ x s, SN X (u x (E s)) body (mb x s) E) (hs : ∀ x, foldedSetIterable iter X.env x = pure x := by intro _; rfl) : N1 X ρ (.For tg iter body [] pos) (mi.bind fun r => forN r.1 mb (s0 r.2)) E := .mk fun R fr => .mk fun r er => by
  obtain ⟨s, es, er⟩ := bind_some er
  cases er
  obtain ⟨its, ei, es⟩ := bind_some es
  intro σ F H Rl De q
  refine s1_forE (fr := fun z : Empty => z.elim) hp hc hi hg gv h0 (fun x s => hb x s _ _) (fun z => z.elim) hs (.inl s) ?_ σ F H Rl De q
  rw [ei]
  show forM its.1 _ (s0 its.2) = _
  rw [forM_N, es]
  rfl
/-- a list put together, with effects -/
theorem els_nil {f : α → D} {fd0 : Fd} (h0 : Ef fd0 = ρ) : EAr X ρ Ef [] (some (([] : List α), fd0)) (fun xs => xs.map f) := .mk fun r er σ F H R Q q => by
  cases er
  subst h0
  exact PA.to pa_nil (q [] F H R (fr_refl R.sub) .nil)
theorem els_cons {f : α → D} {ma : Option (α × Fd)} {mb : Fd → Option (List α × Fd)} (ha : EV X ρ Ef a ma f) (hb : ∀ s, EAr X (Ef s) Ef es (mb s) (fun xs => xs.map f)) (hs : starEach (a :: es) X.env = (false, eval a X.env) :: starEach es X.env := by rfl) :
    EAr X ρ Ef (a :: es) (ma.bind fun x => (mb x.2).bind fun y => some (x.1 :: y.1, y.2)) (fun xs => xs.map f) := .mk fun r er σ F H R Q q => by
  obtain ⟨x, ex, er⟩ := bind_some er
  obtain ⟨y, ey, er⟩ := bind_some er
  cases er
  exact PA.to (pa_cons pE pA hs) (ha x ex σ F H R _ fun v F1 H1 R1 g1 d1 => hb x.2 y ey σ F1 H1 R1 _ fun vs F2 H2 R2 g2 d2 => q (v :: vs) F2 H2 R2 (g1.trans g2) (.cons (Dp.mono g2.ff d1) d2))
end
/-! ### an own feed at the start of law; op= with effects -/
section
variable {α β S R : Type} {X : Cx} {ρ : Rho} {e : Expr} {pos pos' : Pos} {i : Nat} {x : Str} {E : Fd → Rho}
theorem n1_augE {op : Operator} {ip : Int → Int → Int} {m : Option (Int × Fd)} {z0 : Int} (n : Nm X.N X.env.scope i x) (hip : PIp X op (ipI ip)) (h : EV X ρ E e m dI) (hρ0 : ρ[i]? = some (.val (dI z0))) (hN : X.N.Nodup) (hx : Loc X.env.scope x) (hf : X.fn x = true ∨ X.env.scope.names.lookup x = some .local := by first | exact .inl rfl | exact .inr rfl | assumption) :
    N1 X ρ (.AugAssign (.Name x pos') op e pos) (m.bind fun z => some (ip z0 z.1, z.2)) (fun z => (E z.2).set i (.val (dI z.1))) := .mk fun _ fr => .mk fun r er σ F H Rl De q => by
  obtain ⟨z, ez, er⟩ := bind_some er
  obtain ⟨y, ey, ez⟩ := bind_some ez
  cases ez
  cases er
  obtain ⟨v, e1, d0⟩ := Rl.at_ i _ hρ0
  refine PS.to (ps_aug hN n.hN hx pE hip hf) ⟨v, e1, h y ey σ F H Rl _ fun v2 F1 H1 R1 g1 d1 => ⟨z0, y.1, dp_int d0, dp_int d1, ?_⟩⟩
  exact q _ F1 H1 (R1.setV (.int _)) (g1.trans (Fr.setN rfl R1.sub))
structure ELn (X : Cx) (ρ : Rho) (E : Fd → Rho) (es : List Expr) (m : Option (List α × Fd)) (f : α → D) (n : Nat) : Prop where
  h : EAr X ρ E es m (fun xs => xs.map f)
  len : ∀ r, m = some r → r.1.length = n
theorem eln_nil {f : α → D} {fd0 : Fd} (h0 : E fd0 = ρ) : ELn X ρ E [] (some (([] : List α), fd0)) f 0 := ⟨els_nil h0, fun _ h => by cases h; rfl⟩
theorem eln_cons {a : Expr} {es : List Expr} {f : α → D} {n : Nat} {ma : Option (α × Fd)} {mb : Fd → Option (List α × Fd)} (ha : EV X ρ E a ma f) (hb : ∀ s, ELn X (E s) E es (mb s) f n) (hs : starEach (a :: es) X.env = (false, eval a X.env) :: starEach es X.env := by rfl) :
    ELn X ρ E (a :: es) (ma.bind fun x => (mb x.2).bind fun y => some (x.1 :: y.1, y.2)) f (n + 1) := ⟨els_cons ha (fun s => (hb s).h) hs, fun r h => by
  obtain ⟨x, ex, h⟩ := bind_some h
  obtain ⟨y, ey, h⟩ := bind_some h
  cases h
  show (x.1 :: y.1).length = _
  rw [List.length_cons, (hb x.2).len y ey]⟩
theorem en_dis {es : List Expr} {f : α → D} {m : Option (List α × Fd)} {n : Nat} (h : ELn X ρ E es m f n) (hn : n ≤ 1000 := by decide) : EN X ρ E (.List es pos) m (fun xs => xs.map f) := .mk fun r er σ F H R Q q => by
  refine PE.to (pe_lst pA) (h.h r er σ F H R _ fun vs F1 H1 R1 g1 d1 => ?_)
  refine ⟨Nat.le_of_lt (small1000 (by rw [DpAll.length d1, List.length_map, h.len r er]; exact hn)), fun p hp => ?_⟩
  have x2 := Ext.newOwn R1.sub hp (.lst vs)
  refine q p vs F1 _ (R1.ext x2) (g1.trans (Fr.of_ext x2)) (g1.there p hp) upd_same (R1.sub.free hp) (fun o => ?_) d1
  obtain ⟨ws, hw, _⟩ := R1.own_lst o
  rw [hp] at hw
  cases hw
end

/-! ### sorted -/
structure So {α : Type} (f : α → D) : Prop where
  alike : ∀ a b, PySem.W.alike (f a) (f b) = true
  srt : (∀ a, ∃ x r, f a = .tuple (x :: r)) ∨ (∀ a, f a ≠ .none ∧ ∀ xs, f a ≠ .tuple xs)
def srt {α : Type} (f : α → D) (xs : List α) : List α := xs.mergeSort fun a b => !PySem.W.dataLt (f b) (f a)
section
variable {α β γ δ : Type} {X : Cx} {f : α → D} {g : β → D} {h : γ → D} {k : δ → D}
theorem each_zip {K : PySem.W.Frag} {H : Hp} {σ : L2.St} {pins : List (Addr × Obj)} {s : Shared} (I : Inv X pins σ H s) (f : α → D) : ∀ {vs : List V} {us : List Value} {as : List α}, Vals vs us → DpAll X.K H vs (as.map f) → PySem.W.EachIs (fun u (b : V × α) => RelV b.1 u ∧ ∃ ad, PySem.Reads s.heap u (f b.2) ad) us (vs.zip as)
  | [], _, as, r, d => by
    cases r
    exact .nil
  | v :: vs, _, [], r, d => by cases d
  | v :: vs, _, a :: as, r, d => by
    cases r with
    | cons r1 r2 =>
      cases d with
      | cons d1 d2 => exact .cons ⟨r1, Dp.reads I _ v _ d1 r1⟩ (each_zip (K := K) I f r2 d2)
theorem each_vals {L : List (V × α)} : ∀ {us : List Value}, PySem.W.EachIs (fun u (b : V × α) => RelV b.1 u) us L → Vals (L.map (·.1)) us := by
  induction L with
  | nil => intro us e; cases e; exact .nil
  | cons b L ih =>
    intro us e
    cases e with
    | cons h1 h2 => exact .cons h1 (ih h2)
theorem dp_zip {K : PySem.W.Frag} {F : Hp} : ∀ {vs : List V} {as : List α}, DpAll K F vs (as.map f) → ∀ b ∈ vs.zip as, Dp K F b.1 (f b.2)
  | [], as, d, b, hb => by simp at hb
  | v :: vs, [], d, b, hb => by simp at hb
  | v :: vs, a :: as, .cons d1 d2, b, hb => by
    rw [List.zip_cons_cons] at hb
    rcases List.mem_cons.mp hb with rfl | hb
    · exact d1
    · exact dp_zip d2 b hb
theorem dp_of_each {K : PySem.W.Frag} {F : Hp} : ∀ {L : List (V × α)}, (∀ b ∈ L, Dp K F b.1 (f b.2)) → DpAll K F (L.map (·.1)) ((L.map (·.2)).map f)
  | [], _ => .nil
  | b :: L, h => .cons (h b List.mem_cons_self) (dp_of_each fun c hc => h c (List.mem_cons_of_mem _ hc))
theorem zip_snd : ∀ {vs : List V} {as : List α}, vs.length = as.length → (vs.zip as).map (·.2) = as
  | [], [], _ => rfl
  | _ :: vs, a :: as, h => by rw [List.zip_cons_cons, List.map_cons, zip_snd (by simpa using h)]
  | [], _ :: _, h => by simp at h
  | _ :: _, [], h => by simp at h
theorem cn_sorted [DecidableEq α] {n : Nat} {f1 : List α → AD} (S : So f) (L : Lw n f) (hu : X.A.units + 64 < cLine) (h : ∀ xs, (f1 xs).dat = .list (xs.map f) := by intro _; rfl) (hn : n ≤ 60 := by decide) : CallN X (.builtin "sorted") (fun xs => [f1 xs]) (fun xs => some (srt f xs)) (fun xs => xs.map f) := fun a c ec F H xs Q s hx q => by
  cases ec
  obtain ⟨v, rfl, d⟩ := ad1 hx
  obtain ⟨p, vs, rfl, hs, hd⟩ := d.lst s (h a)
  intro pins s' σ us I r
  obtain ⟨its, rv, hl, hz⟩ := I.list hs
  rw [Vals.ref1 r]
  have ez := each_zip (K := X.K) I f rv (DpAll.mono s hd)
  have hlen : vs.length = a.length := by rw [DpAll.length hd, List.length_map]
  have hbl : (vs.zip a).length = vs.length := by rw [List.length_zip, ← hlen, Nat.min_self]
  refine PySem.W.sorted_data (bs := vs.zip a) (enc := fun b : V × α => f b.2) hl.isList (ez.mono fun _ _ z => z.1) (ez.mono fun _ _ z => z.2) (PySem.W.AllAlike.of fun b b' => S.alike _ _)
    (S.srt.elim (fun z => PySem.W.Sortable.tuples fun b => z b.2) fun z => PySem.W.Sortable.others fun b => z b.2) (by rw [hbl]; exact hz) (fun b _ => by have := L.depth b.2; omega) fun out ho eo => ?_
  have vo := each_vals eo
  obtain ⟨ep, he'⟩ := PyProof.Rows.sortedAll_at s'.heap its out.toArray
  have hsz : (((vs.zip a).mergeSort (PySem.W.dataLe false fun b : V × α => f b.2)).map (·.1)).length ≤ sizeLine := by
    rw [List.length_map, List.length_mergeSort, hbl]
    exact hz
  have em : ((vs.zip a).mergeSort (PySem.W.dataLe false fun b : V × α => f b.2)).map (·.2) = srt f a := by
    unfold srt
    have e := List.map_mergeSort (f := fun b : V × α => b.2) (r := PySem.W.dataLe false fun b : V × α => f b.2) (s := fun a b => !PySem.W.dataLt (f b) (f a)) (l := vs.zip a) fun b _ b' _ => rfl
    exact e.trans (by rw [zip_snd hlen])
  have hdd : DpAll X.K F (((vs.zip a).mergeSort (PySem.W.dataLe false fun b : V × α => f b.2)).map (·.1)) ((srt f a).map f) := by
    rw [← em]
    exact dp_of_each fun b hb => dp_zip hd b ((List.mergeSort_perm _ _).mem_iff.mp hb)
  have fresh : H (s'.heap.objs.size + 1) = none := I.hok.fresh (Nat.le_succ _)
  exact ⟨.ref _, upd H (s'.heap.objs.size + 1) (.lst _), I.laid (t' := s'.toks) (fun _ _ => PyProof.Rows.sortedAll_old) (Nat.le_succ _) ⟨hsz, out, ep, vo, he'⟩, rfl, q _ _ F _ (Ext.newOwn s fresh _) fresh upd_same (s.free fresh) hdd⟩
theorem so_I : So dI := ⟨fun _ _ => by show PySem.W.alike (.int _) (.int _) = true; rw [PySem.W.alike], .inr fun _ => ⟨(fun z => by cases z), (fun _ z => by cases z)⟩⟩
theorem so_S : So dS := ⟨fun _ _ => by show PySem.W.alike (.str _) (.str _) = true; rw [PySem.W.alike], .inr fun _ => ⟨(fun z => by cases z), (fun _ z => by cases z)⟩⟩
theorem alikeAll_map' (S : So f) : ∀ xs ys : List α, PySem.W.alikeAll (xs.map f) (ys.map f) = true
  | [], _ => by rw [List.map_nil, PySem.W.alikeAll]
  | _ :: _, [] => by rw [List.map_cons, List.map_nil, PySem.W.alikeAll] <;> simp
  | x :: xs, y :: ys => by rw [List.map_cons, List.map_cons, PySem.W.alikeAll, S.alike, alikeAll_map' S xs ys]; rfl
theorem so_L (S : So f) : So (dL f) := ⟨fun a b => by show PySem.W.alike (.list _) (.list _) = true; rw [PySem.W.alike, alikeAll_map' S], .inr fun _ => ⟨(fun z => by cases z), (fun _ z => by cases z)⟩⟩
theorem so_2 (S1 : So f) (S2 : So g) : So (d2 f g) := ⟨fun a b => by show PySem.W.alike (.tuple _) (.tuple _) = true; simp only [PySem.W.alike, PySem.W.alikeAll, S1.alike, S2.alike, Bool.and_self], .inl fun _ => ⟨_, _, rfl⟩⟩
theorem so_3 (S1 : So f) (S2 : So g) (S3 : So h) : So (d3 f g h) := ⟨fun a b => by show PySem.W.alike (.tuple _) (.tuple _) = true; simp only [PySem.W.alike, PySem.W.alikeAll, S1.alike, S2.alike, S3.alike, Bool.and_self], .inl fun _ => ⟨_, _, rfl⟩⟩
theorem so_4 (S1 : So f) (S2 : So g) (S3 : So h) (S4 : So k) : So (d4 f g h k) := ⟨fun a b => by show PySem.W.alike (.tuple _) (.tuple _) = true; simp only [PySem.W.alike, PySem.W.alikeAll, S1.alike, S2.alike, S3.alike, S4.alike, Bool.and_self], .inl fun _ => ⟨_, _, rfl⟩⟩
end

/-! ### tuples of known length and their lists of items -/
def toT2 {α : Type} : List α → Option (α × α)
  | [a, b] => some (a, b)
  | _ => none
def toT3 {α : Type} : List α → Option (α × α × α)
  | [a, b, c] => some (a, b, c)
  | _ => none
def toT4 {α : Type} : List α → Option (α × α × α × α)
  | [a, b, c, d] => some (a, b, c, d)
  | _ => none
section
variable {α β : Type} {X : Cx} {ρ : Rho} {e : Expr} {f : α → D} {m : Option (List α)}
theorem pv_eqv {m : Option α} {f' : β → D} (g : α → Option β) (h : PV X ρ e m (aD f)) (hg : ∀ x y, g x = some y → f' y = f x) : PV X ρ e (m.bind g) (aD f') := PV.map g h fun x y exy K F H v _ d => by
  show Dp K F v (f' y)
  rw [hg x y exy]
  exact d
theorem pv_V2 (h : PV X ρ e m (aD (dT f))) : PV X ρ e (m.bind toT2) (aD (d2 f f)) := pv_eqv toT2 h fun x y exy => by
  unfold toT2 at exy
  split at exy
  · cases exy; rfl
  · cases exy
theorem pv_V3 (h : PV X ρ e m (aD (dT f))) : PV X ρ e (m.bind toT3) (aD (d3 f f f)) := pv_eqv toT3 h fun x y exy => by
  unfold toT3 at exy
  split at exy
  · cases exy; rfl
  · cases exy
theorem pv_V4 (h : PV X ρ e m (aD (dT f))) : PV X ρ e (m.bind toT4) (aD (d4 f f f f)) := pv_eqv toT4 h fun x y exy => by
  unfold toT4 at exy
  split at exy
  · cases exy; rfl
  · cases exy
end

/-- turns allowed to a while loop: nothing is to look inside -/
@[irreducible] def FUEL : Nat := 1000000000
theorem fuel_ge : 1000000000 ≤ FUEL := by unfold FUEL; exact Nat.le_refl _

/-! ### what «same» says of twice the same tree: plain facts -/
theorem isi_int_int (i : Int) : isiD "int" (.int i) = some true := by simp [isiD, tyD]
theorem isi_bool_int (i : Int) : isiD "bool" (.int i) = some false := by simp [isiD, tyD]
theorem isi_int_str (i : Str) : isiD "int" (.str i) = some false := by simp [isiD, tyD]
theorem isi_str_str (i : Str) : isiD "str" (.str i) = some true := by simp [isiD, tyD]
theorem isi_bool_str (i : Str) : isiD "bool" (.str i) = some false := by simp [isiD, tyD]
theorem isi_bool_bool (i : Bool) : isiD "bool" (.bool i) = some true := by simp [isiD, tyD]
theorem isi_int_bool (i : Bool) : isiD "int" (.bool i) = some true := by simp [isiD, tyD]
theorem isi_int_list (i : List D) : isiD "int" (.list i) = some false := by simp [isiD, tyD]
theorem isi_str_list (i : List D) : isiD "str" (.list i) = some false := by simp [isiD, tyD]
theorem isi_bool_list (i : List D) : isiD "bool" (.list i) = some false := by simp [isiD, tyD]
theorem isi_list_list (i : List D) : isiD "list" (.list i) = some true := by simp [isiD, tyD]
theorem isi_tuple_list (i : List D) : isiD "tuple" (.list i) = some false := by simp [isiD, tyD]
theorem isi_int_tuple (i : List D) : isiD "int" (.tuple i) = some false := by simp [isiD, tyD]
theorem isi_str_tuple (i : List D) : isiD "str" (.tuple i) = some false := by simp [isiD, tyD]
theorem isi_bool_tuple (i : List D) : isiD "bool" (.tuple i) = some false := by simp [isiD, tyD]
theorem isi_list_tuple (i : List D) : isiD "list" (.tuple i) = some false := by simp [isiD, tyD]
theorem isi_tuple_tuple (i : List D) : isiD "tuple" (.tuple i) = some true := by simp [isiD, tyD]
theorem isi_str_int (i : Int) : isiD "str" (.int i) = some false := by simp [isiD, tyD]
theorem isi_list_int (i : Int) : isiD "list" (.int i) = some false := by simp [isiD, tyD]
theorem isi_tuple_int (i : Int) : isiD "tuple" (.int i) = some false := by simp [isiD, tyD]
theorem isi_tuple_str (i : Str) : isiD "tuple" (.str i) = some false := by simp [isiD, tyD]
theorem isi_list_str (i : Str) : isiD "list" (.str i) = some false := by simp [isiD, tyD]
theorem eqA_lw {α : Type} [DecidableEq α] {f : α → D} {k : Nat} (L : Lw k f) (hk : k ≤ 64) (a b : α) : eqA (f a) (f b) = some (decide (a = b)) := by
  unfold eqA
  rw [if_pos ⟨L.plain a, L.plain b, Nat.le_trans (L.depth a) hk⟩, L.eqv]
theorem eqA_int (i : Int) : eqA (.int i) (.int i) = some true := by
  have := eqA_lw lw_int (by decide) i i
  rw [decide_eq_true rfl] at this
  exact this
theorem eqA_str (i : Str) : eqA (.str i) (.str i) = some true := by
  have := eqA_lw lw_str (by decide) i i
  rw [decide_eq_true rfl] at this
  exact this
theorem eqA_bool (i : Bool) : eqA (.bool i) (.bool i) = some true := by
  have := eqA_lw lw_bool (by decide) i i
  rw [decide_eq_true rfl] at this
  exact this
theorem sdAll_mem : ∀ {n : Nat} {ds : List D}, sdAll n ds = true → ∀ d ∈ ds, sd n d = true
  | _, [], _, d, hd => by cases hd
  | n, x :: r, h, d, hd => by
    rw [sdAll, Bool.and_eq_true] at h
    rcases List.mem_cons.mp hd with rfl | hd
    · exact h.1
    · exact sdAll_mem h.2 d hd
theorem zip_self_mem {α : Type} : ∀ {xs : List α} {p : α × α}, p ∈ xs.zip xs → p.1 = p.2 ∧ p.1 ∈ xs
  | [], p, h => by cases h
  | x :: r, p, h => by
    rw [List.zip_cons_cons] at h
    rcases List.mem_cons.mp h with rfl | h
    · exact ⟨rfl, List.mem_cons_self⟩
    · exact ⟨(zip_self_mem h).1, List.mem_cons_of_mem _ (zip_self_mem h).2⟩

/-! ### «same» by the indexes: lists of a length that a range can count -/
mutual
def sdA : Nat → D → Bool
  | _, .none => true
  | _, .bool _ => true
  | _, .int _ => true
  | _, .str _ => true
  | n + 1, .list ds => decide (ds.length.log2 < 62) && sdAAll n ds
  | n + 1, .tuple ds => decide (ds.length.log2 < 62) && sdAAll n ds
  | _, _ => false
def sdAAll : Nat → List D → Bool
  | _, [] => true
  | n, d :: ds => sdA n d && sdAAll n ds
end
theorem sdAAll_mem : ∀ {n : Nat} {ds : List D}, sdAAll n ds = true → ∀ d ∈ ds, sdA n d = true
  | _, [], _, d, hd => by cases hd
  | n, x :: r, h, d, hd => by
    rw [sdAAll, Bool.and_eq_true] at h
    rcases List.mem_cons.mp hd with rfl | hd
    · exact h.1
    · exact sdAAll_mem h.2 d hd
theorem sdAAll_of : ∀ {n : Nat} {ds : List D}, (∀ d ∈ ds, sdA n d = true) → sdAAll n ds = true
  | _, [], _ => by rw [sdAAll]
  | n, x :: r, h => by
    rw [sdAAll, h x List.mem_cons_self, sdAAll_of fun d hd => h d (List.mem_cons_of_mem _ hd)]; rfl
/-- the same value twice, of lists that are not too long -/
def sameS {α : Type} [DecidableEq α] (f : α → D) (p : α × α) : Option Bool := if p.1 = p.2 ∧ sdA 7 (f p.1) = true then some true else none
section
variable {α β γ δ : Type} {n : Nat} {f : α → D} {g : β → D} {h : γ → D} {k : δ → D}
theorem sA_I {i : Int} : sdA n (dI i) = true := by show sdA n (.int _) = true; rw [sdA]
theorem sA_B {i : Bool} : sdA n (dB i) = true := by show sdA n (.bool _) = true; rw [sdA]
theorem sA_S {i : Str} : sdA n (dS i) = true := by show sdA n (.str _) = true; rw [sdA]
theorem sA_U {i : Unit} : sdA n (dU i) = true := by show sdA n (.none) = true; rw [sdA]
theorem sA_O {a : Option α} (H : ∀ x, a = some x → sdA n (f x) = true) : sdA n (dO f a) = true := by
  cases a with
  | none => show sdA n .none = true; rw [sdA]
  | some a => exact H a rfl
theorem sA_list {ds : List D} (hl : ds.length < 2 ^ 62) (H : ∀ d ∈ ds, sdA n d = true) : sdA (n + 1) (.list ds) = true := by
  have hl : ds.length.log2 < 62 := by
    by_cases z : ds.length = 0
    · rw [z]; decide
    · exact (Nat.log2_lt z).mpr hl
  rw [sdA, sdAAll_of H, decide_eq_true hl]; rfl
theorem sA_tuple {ds : List D} (hl : ds.length < 2 ^ 62) (H : ∀ d ∈ ds, sdA n d = true) : sdA (n + 1) (.tuple ds) = true := by
  have hl : ds.length.log2 < 62 := by
    by_cases z : ds.length = 0
    · rw [z]; decide
    · exact (Nat.log2_lt z).mpr hl
  rw [sdA, sdAAll_of H, decide_eq_true hl]; rfl
theorem sA_L {xs : List α} (hl : xs.length < 2 ^ 62) (H : ∀ x ∈ xs, sdA n (f x) = true) : sdA (n + 1) (dL f xs) = true := by
  show sdA (n + 1) (.list (xs.map f)) = true
  exact sA_list (by rw [List.length_map]; exact hl) fun d hd => by
    obtain ⟨x, hx, rfl⟩ := List.mem_map.mp hd
    exact H x hx
theorem sA_V {xs : List α} (hl : xs.length < 2 ^ 62) (H : ∀ x ∈ xs, sdA n (f x) = true) : sdA (n + 1) (dT f xs) = true := by
  show sdA (n + 1) (.tuple (xs.map f)) = true
  exact sA_tuple (by rw [List.length_map]; exact hl) fun d hd => by
    obtain ⟨x, hx, rfl⟩ := List.mem_map.mp hd
    exact H x hx
theorem sA_2 {x : α × β} (H1 : sdA n (f x.1) = true) (H2 : sdA n (g x.2) = true) : sdA (n + 1) (d2 f g x) = true := by
  show sdA (n + 1) (.tuple [_, _]) = true
  exact sA_tuple (by show 2 < 2 ^ 62; decide) fun d hd => by
    simp only [List.mem_cons, List.not_mem_nil, or_false] at hd
    rcases hd with rfl | rfl <;> assumption
theorem sA_3 {x : α × β × γ} (H1 : sdA n (f x.1) = true) (H2 : sdA n (g x.2.1) = true) (H3 : sdA n (h x.2.2) = true) : sdA (n + 1) (d3 f g h x) = true := by
  show sdA (n + 1) (.tuple [_, _, _]) = true
  exact sA_tuple (by show 3 < 2 ^ 62; decide) fun d hd => by
    simp only [List.mem_cons, List.not_mem_nil, or_false] at hd
    rcases hd with rfl | rfl | rfl <;> assumption
theorem sA_4 {x : α × β × γ × δ} (H1 : sdA n (f x.1) = true) (H2 : sdA n (g x.2.1) = true) (H3 : sdA n (h x.2.2.1) = true) (H4 : sdA n (k x.2.2.2) = true) : sdA (n + 1) (d4 f g h k x) = true := by
  show sdA (n + 1) (.tuple [_, _, _, _]) = true
  exact sA_tuple (by show 4 < 2 ^ 62; decide) fun d hd => by
    simp only [List.mem_cons, List.not_mem_nil, or_false] at hd
    rcases hd with rfl | rfl | rfl | rfl <;> assumption
end
theorem sameS_ok {α : Type} [DecidableEq α] {f : α → D} {a : α} (H : sdA 7 (f a) = true) : sameS f (a, a) = some true := by unfold sameS; rw [if_pos ⟨rfl, H⟩]
theorem same_atA {P : Program} {w : World} {K : PySem.W.Frag} {mg : Str → Option Value} {base : Heap} {α : Type} [DecidableEq α] {x : Str} {ps : List Str} {k l : Nat} {f : α → D} {m : PyData × PyData → Option Bool} (G : Gf P w K mg base k x ps (spP K l (fun p : PyData × PyData => [dA p.1, dA p.2]) m dB)) (hm : ∀ d, sdA 7 d = true → m (d, d) = some true) :
    Gf P w K mg base k x ps (spP K l (fun p : α × α => [f p.1, f p.2]) (sameS f) dB) := G.map fun ff fd H => by
  have to : ∀ vs H Q E, spP K l (fun p : α × α => [f p.1, f p.2]) (sameS f) dB vs H Q E → spP K l (fun p : PyData × PyData => [dA p.1, dA p.2]) m dB vs H Q E := fun vs H Q E ⟨F, a, b, h1, h2, h3, h4, h5⟩ => by
    unfold sameS at h4
    split at h4
    · rename_i e
      cases h4
      refine ⟨F, (f a.1, f a.1), true, h1, h2, ?_, hm _ e.2, h5⟩
      have h3' : DpAll K F vs [f a.1, f a.2] := h3
      rw [← e.1] at h3'
      exact h3'
    · cases h4
  exact ⟨fun vs HH Q E z => H.len vs HH Q E (to vs HH Q E z), fun A outer s HH args us vs Q E hr e b r z => H.run A outer s HH args us vs Q E hr e b r (to vs HH Q E z)⟩

/-! ### list(range(..)), max and min of a tuple, xs[k] op= e with effects -/
def lrg (i j : Int) : Option (List Int) := if big i ∧ big j ∧ (j - i).toNat ≤ 16777216 then some (rngL i (j - i).toNat) else none
theorem rgV_eq (i j : Int) : rgV i j = (rngL i (j - i).toNat).map V.int := by
  unfold rgV rngL
  rw [List.map_map]
  rfl
section
variable {α β γ S R : Type} {X : Cx} {ρ : Rho} {a b c e : Expr} {es : List Expr} {pos pos' p p2 p3 : Pos} {i j : Nat} {x : Str} {E : Fd → Rho}
theorem pn_listRg1 {m : Option Int} (hc : X.calm = true) (hg : Gl X "list") (hm : X.mg "list" = none) (hg2 : Gl X "range") (hm2 : X.mg "range" = none) (h : PV X ρ a m (aD dI)) (na : starEach [a] X.env = (false, eval a X.env) :: starEach [] X.env := by rfl)
    (na2 : starEach [.Call (.Name "range" p2) [a] [] pos'] X.env = (false, eval (.Call (.Name "range" p2) [a] [] pos') X.env) :: starEach [] X.env := by rfl) :
    PN X ρ (.Call (.Name "list" p) [.Call (.Name "range" p2) [a] [] pos'] [] pos) (m.bind fun n => lrg 0 n) (fun xs => xs.map dI) := .mk fun z ez σ F H R Q q => by
  obtain ⟨n, en, ez⟩ := bind_some ez
  obtain ⟨⟨b1, b2, b3⟩, rfl⟩ := ite_some ez
  refine PE.to (pe_listRg hc hg hm (prg_1 hg2 hm2 pE na) na2) ?_
  refine h n en σ F H R _ fun v F1 H1 x1 d1 => ⟨n, dp_int d1, ⟨(big_bd b1).1, (big_bd b1).2, (big_bd b2).1, (big_bd b2).2, b3⟩, fun l hl => ?_⟩
  rw [rgV_eq]
  exact q l _ F1 _ (x1.trans (Ext.newOwn x1.fh hl _)) (x1.hh.free hl) upd_same (x1.fh.free hl) (DpAll.ints _)
theorem pn_listRg2 {m m2 : Option Int} (hc : X.calm = true) (hg : Gl X "list") (hm : X.mg "list" = none) (hg2 : Gl X "range") (hm2 : X.mg "range" = none) (h : PV X ρ a m (aD dI)) (h2 : PV X ρ b m2 (aD dI)) (na : starEach [a, b] X.env = (false, eval a X.env) :: starEach [b] X.env := by rfl)
    (nb : starEach [b] X.env = (false, eval b X.env) :: starEach [] X.env := by rfl) (hp : (backTo pos' (starEach [b] X.env)).any (·.1) = false := by rfl)
    (na2 : starEach [.Call (.Name "range" p2) [a, b] [] pos'] X.env = (false, eval (.Call (.Name "range" p2) [a, b] [] pos') X.env) :: starEach [] X.env := by rfl) :
    PN X ρ (.Call (.Name "list" p) [.Call (.Name "range" p2) [a, b] [] pos'] [] pos) (m.bind fun n => m2.bind fun k => lrg n k) (fun xs => xs.map dI) := .mk fun z ez σ F H R Q q => by
  obtain ⟨n, en, ez⟩ := bind_some ez
  obtain ⟨k, ek, ez⟩ := bind_some ez
  obtain ⟨⟨b1, b2, b3⟩, rfl⟩ := ite_some ez
  refine PE.to (pe_listRg hc hg hm (prg_2 hg2 hm2 pE pE na nb hp) na2) ?_
  refine h n en σ F H R _ fun v F1 H1 x1 d1 => h2 k ek σ F1 H1 (R.ext x1) _ fun u F2 H2 x2 d2 => ⟨n, k, dp_int d1, dp_int d2, ⟨(big_bd b1).1, (big_bd b1).2, (big_bd b2).1, (big_bd b2).2, b3⟩, fun l hl => ?_⟩
  rw [rgV_eq]
  exact q l _ F2 _ ((x1.trans x2).trans (Ext.newOwn x2.fh hl _)) ((x1.trans x2).hh.free hl) upd_same (x2.fh.free hl) (DpAll.ints _)
theorem reads_ints {h : Heap} : ∀ {ns : List Int} {us : List Value}, Vals (ns.map V.int) us → ReadsAll h us (ns.map PyData.int) []
  | [], _, r => by
    cases r
    exact .nil
  | n :: ns, _, r => by
    cases r with
    | cons r1 r2 =>
      obtain ⟨t, rfl⟩ := r1
      exact ReadsAll.cons (as := []) (bs := []) (.int n t) (reads_ints r2)
theorem vals_int_get : ∀ {ns : List Int} {us : List Value} {i : Nat} {u : Value}, Vals (ns.map V.int) us → us[i]? = some u → ∃ n t, u = .int n t
  | [], _, i, u, r, e => by
    cases r
    simp at e
  | n :: ns, _, 0, u, r, e => by
    cases r with
    | cons r1 r2 =>
      obtain ⟨t, rfl⟩ := r1
      simp at e
      exact ⟨n, t, e.symm⟩
  | n :: ns, _, i + 1, u, r, e => by
    cases r with
    | cons r1 r2 => exact vals_int_get (i := i) r2 (by simpa using e)
theorem maxOf_int (y : Int) (ys : List Int) : PySem.W.maxOf y ys = ys.foldl max y := by
  unfold PySem.W.maxOf
  have : (fun (a y : Int) => if PySem.W.DatumOrd.lt a y = true then y else a) = max := by
    funext a y
    show (if decide (a < y) = true then y else a) = max a y
    by_cases h : a < y
    · rw [if_pos (decide_eq_true h)]; omega
    · rw [if_neg (by simp [h])]; omega
  rw [this]
theorem minOf_int (y : Int) (ys : List Int) : PySem.W.minOf y ys = ys.foldl min y := by
  unfold PySem.W.minOf
  have : (fun (a y : Int) => if PySem.W.DatumOrd.lt y a = true then y else a) = min := by
    funext a y
    show (if decide (y < a) = true then y else a) = min a y
    by_cases h : y < a
    · rw [if_pos (decide_eq_true h)]; omega
    · rw [if_neg (by simp [h])]; omega
  rw [this]
theorem cv_maxV (hc : X.calm = true) (hu : X.A.units + 64 < cLine) : CallV X (.builtin "max") (fun xs => [aD (dT dI) xs]) maxT dI := fun a c ec F H xs Q s hx q => by
  obtain ⟨v, rfl, d⟩ := ad1 hx
  obtain ⟨p, vs, rfl, hs, hd⟩ := dp_tup (show Dp X.K F v (.tuple (a.map dI)) from d)
  cases dpall_ints hd
  intro pins s' σ us I r
  obtain ⟨its, rv, hl, hz⟩ := I.tuple (sqT_mono s hs)
  rw [Vals.ref1 r]
  cases a with
  | nil => cases ec
  | cons y ys =>
    cases ec
    refine PySem.W.max_tuple_datum (α := Int) (I.ok.hd hc) hl ⟨[], reads_ints (ns := y :: ys) rv⟩ (by show _ + 1 + 0 < _; omega) fun i v h' tk hv hr hk => ?_
    obtain ⟨bs, hr⟩ := hr
    obtain ⟨n, t, rfl⟩ := vals_int_get (ns := y :: ys) (i := i) rv (by simpa using hv)
    have hr' : Reads h' (.int n t) (.int (PySem.W.maxOf y ys)) bs := hr
    rw [maxOf_int] at hr'
    cases hr'
    exact ⟨.int _, H, I.kept hk, ⟨_, rfl⟩, q _ F H (Ext.refl s) (.int _)⟩
theorem cv_minV (hc : X.calm = true) (hu : X.A.units + 64 < cLine) : CallV X (.builtin "min") (fun xs => [aD (dT dI) xs]) minT dI := fun a c ec F H xs Q s hx q => by
  obtain ⟨v, rfl, d⟩ := ad1 hx
  obtain ⟨p, vs, rfl, hs, hd⟩ := dp_tup (show Dp X.K F v (.tuple (a.map dI)) from d)
  cases dpall_ints hd
  intro pins s' σ us I r
  obtain ⟨its, rv, hl, hz⟩ := I.tuple (sqT_mono s hs)
  rw [Vals.ref1 r]
  cases a with
  | nil => cases ec
  | cons y ys =>
    cases ec
    refine PySem.W.min_tuple_datum (α := Int) (I.ok.hd hc) hl ⟨[], reads_ints (ns := y :: ys) rv⟩ (by show _ + 1 + 0 < _; omega) fun i v h' tk hv hr hk => ?_
    obtain ⟨bs, hr⟩ := hr
    obtain ⟨n, t, rfl⟩ := vals_int_get (ns := y :: ys) (i := i) rv (by simpa using hv)
    have hr' : Reads h' (.int n t) (.int (PySem.W.minOf y ys)) bs := hr
    rw [minOf_int] at hr'
    cases hr'
    exact ⟨.int _, H, I.kept hk, ⟨_, rfl⟩, q _ F H (Ext.refl s) (.int _)⟩
theorem n1_augSE {op : Operator} {ip : Int → Int → Int} {xs : List Int} {m : Option (Int × Fd)} {mk : Option Int} (n : Nm X.N X.env.scope i x) (hip : PIp X op (ipI ip)) (h : EV X ρ E e m dI) (hk : PV X ρ c mk (aD dI)) (hρ0 : ρ[i]? = some (.own (xs.map dI))) (hρ : ∀ s, (E s)[i]? = some (.own (xs.map dI)))
    (ha : ∀ ov iv new, augStore c ov iv new = (do holding [new, ov, iv] (setItem ov iv new); release [new, ov, iv] []; pure .next) := by intros; rfl) :
    N1 X ρ (.AugAssign (.Subscript (.Name x pos') c p2) op e pos) (mk.bind fun k => m.bind fun z => (augAt ip xs k z.1).bind fun ys => some (ys, z.2)) (fun r => (E r.2).set i (.own (r.1.map dI))) := .mk fun _ fr => .mk fun r er σ F H Rl De q => by
  obtain ⟨w, ew, er⟩ := bind_some er
  obtain ⟨k, ek, ew⟩ := bind_some ew
  obtain ⟨z, ez, ew⟩ := bind_some ew
  obtain ⟨ys, eys, ew⟩ := bind_some ew
  cases ew
  cases er
  obtain ⟨y, ey, eys⟩ := bind_some eys
  refine PS.to (ps_augS (pe_var n.hN n.hv n.hd n.hcd) pE pget_list pE hip set_list ha) ?_
  obtain ⟨p0, vs0, e0, _⟩ := Rl.at_ i _ hρ0
  refine ⟨.ref p0, e0, hk k ek σ F H Rl _ fun u F1 H1 x1 d1 => ?_⟩
  obtain ⟨p, vs, e1, hp, hf, hdd⟩ := (Rl.ext x1).at_ i _ hρ0
  rw [e0] at e1; cases e1
  obtain ⟨v1, hv1, dv1⟩ := DpAll.atI hdd (atI_map (f := dI) ey)
  refine ⟨p0, vs, k, v1, rfl, dp_int d1, SqL.of hp, hv1, h z ez σ F1 H1 (Rl.ext x1) _ fun v2 F2 H2 R2 g2 d2 => ?_⟩
  refine ⟨y, z.1, dp_int dv1, dp_int d2, ?_⟩
  obtain ⟨p', vs', j, e1, hp', hj, R', f'⟩ := own_set (f := dI) R2 (hρ z.2) (v := .int (ip y z.1)) (.int _) eys
  rw [e0] at e1; cases e1
  exact ⟨p0, vs', k, j, rfl, dp_int (Dp.mono g2.ff d1), hp', hj, q σ F2 _ R' ((Fr.of_ext x1).trans (g2.trans f'))⟩
end

/-! ### enumerate of a tuple -/
set_option maxHeartbeats 1000000 in
theorem meets_enum1 {v : Value} {o : Obj} {H : Heap → Prop} (B : Begins v o H) :
    Meets (Builtin.«enumerate.__new__» ⟨[.type "enumerate", v], []⟩) (fun _ R s => H s.heap ∧
      R (.ok (.ret (.ref (s.heap.push o).objs.size))) { s with heap := (s.heap.push o).push { cls := .type "enumerate", data := .fields #[.none, .bool false, .ref s.heap.objs.size, rawInt 0, .none, .none] } }) :=
  .of_wp fun prog w A R s h => by
    obtain ⟨hp, g, d, tk, os⟩ := s; obtain ⟨h1, h⟩ := h
    have hsub := sub_enumerate
    have q1 : ∀ {A' : Around} {E : Value → Shared → Prop} {Q : Value → Shared → Prop}, Q (.ref hp.objs.size) ⟨hp.push o, g, d, tk, os⟩ → wpAny (model prog w) A' (pyIter v) Q E ⟨hp, g, d, tk, os⟩ :=
      fun q => B.iter prog w _ _ ⟨hp, g, d, tk, os⟩ _ h1 q
    wp_walk using q1
    refine wpAny_stack_any fun st => wpAny_pure ?_
    split
    · rename_i c _ _ _ _ _
      cases (c == Value.type "enumerate")
      · wp_walk using q1
        exact ⟨_, rfl, h⟩
      · wp_walk using q1
        exact ⟨_, rfl, h⟩
    · wp_walk using q1
      exact ⟨_, rfl, h⟩
theorem call_enum1 {prog : Program} {w : World} {A : Around} {E : Value → Shared → Prop} {s : Shared} {v : Value} {o : Obj} {H : Heap → Prop} {Q : Value → Shared → Prop} (B : Begins v o H) (h1 : H s.heap)
    (h : ∀ h', IsEnum h' (s.heap.objs.size + 1) s.heap.objs.size 0 .none → h'.get? s.heap.objs.size = some o → h'.objs.size = s.heap.objs.size + 2 →
      (∀ b o, s.heap.get? b = some o → h'.get? b = some o) → Q (.ref (s.heap.objs.size + 1)) { s with heap := h' }) :
    wpAny (model prog w) A (call (.type "enumerate") [v]) Q E s := by
  refine callType_new F.called_enumerate (by decide) (F.typeCall_enumerate_1 _) (F.newCall_enumerate_1 _) (fun obj => F.args_object_init_2 obj _) F.entry_enumerate_new
    (meets_enum1 B) ⟨h1, ?_⟩
  have hz : (s.heap.push o).objs.size = s.heap.objs.size + 1 := Heap.size_push ..
  show _ ∧ _
  rw [hz]
  have he : IsEnum ((s.heap.push o).push { cls := .type "enumerate", data := .fields #[.none, .bool false, .ref s.heap.objs.size, rawInt 0, .none, .none] }) (s.heap.objs.size + 1) s.heap.objs.size 0 .none := by
    have := Heap.get?_push_size (s.heap.push o) (o := { cls := .type "enumerate", data := .fields #[.none, .bool false, .ref s.heap.objs.size, rawInt 0, .none, .none] }) rfl
    rw [hz] at this; exact this
  refine ⟨⟨_, he, rfl⟩, h _ he (Heap.get?_push_of_some _ (Heap.get?_push_size _ B.free)) (by rw [Heap.size_push, hz]) fun b o x => Heap.get?_push_of_some _ (Heap.get?_push_of_some _ x)⟩
theorem wpAny_pyNext_enumT_end {prog : Program} {w : World} {A : Around} {E : Value → Shared → Prop} {s : Shared} {e it l : Addr} {i : Nat} {items : Array Value} {old : Value} {Q : Option Value → Shared → Prop} (hh : A.handled = none)
    (he : IsEnum s.heap e it i old) (hit : s.heap.IsTupleIter it l i) (hl : s.heap.IsTuple l items) (hx : items[i]? = none)
    (hQ : ∀ h', Heap.ExtBut it s.heap h' → Q none { s with heap := h' }) : wpAny (model prog w) A (pyNext (.ref e)) Q E s := by
  have hT : s.TypeIs (.ref e) "enumerate" := ⟨_, he, rfl⟩
  unfold pyNext
  refine wpAny_bind (wpAny_attempt (wpAny_callSpecial?_slot (name := Str.ofString "__next__") hT F.slot_enumerate_next
    (wpAny_call_entry F.slot_enumerate_next hT F.entry_enumerate_next ?_ (F.args_enumerate_next_1 _))))
  show wpAny _ _ (field (.ref e) 2 >>= _) _ _ _
  refine wpAny_bind (wpAny_field he rfl (x := .ref it) rfl ?_)
  refine wpAny_bind (wpAny_nextOf_tuple_end hh hit hl hx fun h' x he' hx' => ?_)
  obtain ⟨o, ho, hc⟩ := hx'
  refine wpAny_bind (wpAny_isInstance (T := "StopIteration") (b := true) ⟨o, ho, hc⟩ isSubtype_stop ?_)
  exact wpAny_pure (hQ _ he')
/-- the tuple at a as it stands at each turn, each item in a new pair -/
def IteT (K : PySem.W.Frag) (a : Addr) : It :=
  ⟨fun i H => ∃ (xs : List V) (x : V), SqT K H a xs ∧ xs[i]? = some x, fun i H v H' => ∃ T x, v = .ref T ∧ H T = none ∧ H' = upd H T (.tup [.int (i : Nat), x]) ∧ ∀ xs, SqT K H a xs → xs[i]? = some x, fun i H => ∃ xs : List V, SqT K H a xs ∧ xs.length ≤ i⟩
theorem turn_enumT {P : Program} {w : World} {K : PySem.W.Frag} {elts : List Expr} {kk : Nat} {tpos : Pos} (a e it : Addr) (hai : a ≠ it) (hea : e ≠ a) :
    Turn P w K (.Tuple elts kk tpos) (IteT K a) [e, it] e (fun i h => (∃ old, IsEnum h e it ((i : Nat) : Int) old) ∧ h.IsTupleIter it a i ∧ e ≠ it) where
  mem := by simp
  obj := fun i h st b hb => by
    obtain ⟨⟨old, he⟩, ⟨o, ho, hc, hd⟩, _⟩ := st
    have e' : b = e ∨ b = it := by simpa using hb
    rcases e' with z | z
    · rw [z]; exact ⟨_, he, fun v q => nomatch q⟩
    · rw [z]; exact ⟨o, ho, fun v q => by rw [hd] at q; cases q⟩
  keep := fun i h h' st k => let ⟨⟨old, he⟩, hi, hne⟩ := st; ⟨⟨old, k e (by simp) _ he⟩, hi.at fun o q => k it (by simp) o q, hne⟩
  item := by
    intro X hP hw hK hc i pins s σ H E I hf st hg
    subst hP hw hK
    obtain ⟨⟨old, he⟩, hit, hne⟩ := st
    obtain ⟨xs, x, hq, hx⟩ := hg
    obtain ⟨its, rv, p, hz⟩ := I.tuple hq
    obtain ⟨u, hu, ru⟩ := rv.get hx
    have hel : e < s.heap.objs.size := Heap.lt_size he
    have hil : it < s.heap.objs.size := by obtain ⟨_, q, _⟩ := hit; exact Heap.lt_size q
    have hlt : i < its.toArray.size := by
      have := (List.getElem?_eq_some_iff.mp hu).1
      simpa using this
    refine wpAny_pyNext_enum_itemD (Draws.tuple (A := X.A.in1) (I.ok.hd hc) it a hai its.toArray) he ⟨hit, p⟩ hlt hne (by simp [hne, hea]) fun x' h' tk hP ho hst' hT hsz hk => ?_
    have ex : x' = u := by
      have hP' : its[i]? = some x' := by simpa using hP
      rw [hu] at hP'
      exact (Option.some.inj hP').symm
    subst ex
    refine ⟨_, rfl, wpAny_letOwnedTupleGo_enum (s := { s with heap := h', toks := tk + 1 }) ho fun h'' he' sb => ?_⟩
    have hT2 : h''.get? s.heap.objs.size = some { cls := .type "tuple", data := .seq #[.int i tk, x'] } := (sb.2 _ (Nat.ne_of_gt hel)).trans hT
    have new : ObjOk X.prog X.w (upd H s.heap.objs.size (.tup [.int (i : Nat), x])) h'' s.heap.objs.size (.tup [.int (i : Nat), x]) :=
      ⟨by show 2 ≤ sizeLine; decide, [.int i tk, x'], .cons ⟨_, rfl⟩ (.cons ru .nil), ⟨_, hT2, rfl, _, rfl⟩⟩
    have I1 : Inv X pins σ (upd H s.heap.objs.size (.tup [.int (i : Nat), x])) { s with heap := h'', toks := tk + 1 } :=
      I.turnedNew (ch := [e, it]) (fun b ob hb q => (sb.2 b (fun z => hb (by simp [z]))).trans (hk b ob (fun z => hb (by simp [z])) (fun z => hb (by simp [z])) q)) hf (Nat.le_refl _) new
    refine ⟨.ref s.heap.objs.size, _, I1, rfl, ⟨_, x, rfl, I.hok.fresh (Nat.le_refl _), rfl, fun ys hy => by rw [I.tuple_inj hy hq]; exact hx⟩, ⟨⟨x', ?_⟩, hst'.1.at fun o q => (sb.2 it (Ne.symm hne)).trans q, hne⟩, fun b hb => ?_⟩
    · have e1 : ((i + 1 : Nat) : Int) = (i : Int) + 1 := by omega
      rw [e1]; exact he'
    · have hb' : b < s.heap.objs.size := by
        have e' : b = e ∨ b = it := by simpa using hb
        rcases e' with z | z
        · rw [z]; exact hel
        · rw [z]; exact hil
      rw [upd_ne (Nat.ne_of_lt hb')]
      exact (hf b hb).1
  done := by
    intro X hP hw hK hc i pins s σ H E I hf st hg
    subst hP hw hK
    obtain ⟨⟨old, he⟩, hit, hne⟩ := st
    obtain ⟨xs, hq, hx⟩ := hg
    obtain ⟨its, rv, p, hz⟩ := I.tuple hq
    obtain ⟨f0, f1, f2, f3, f4, f5⟩ := hf it (by simp)
    have hl := rv.length
    exact wpAny_pyNext_enumT_end (I.ok.hd hc) he hit p (by simp; omega) fun h' eb => ⟨rfl, I.turned (t' := s.toks) (fun b o hb q => eb b o hb q) f0 f1 f3 f4 f5⟩
  self := fun A i s Q E st h => let ⟨⟨_, he⟩, _⟩ := st; wpAny_pyIter_enum he h
def iEnumT (K : PySem.W.Frag) (ta : TA) : TI := fun σ H R => ta σ H fun vs H1 => ∃ a xs, vs = [.ref a] ∧ SqT K H1 a xs ∧ R (IteT K a) H1
theorem pi_enumT {X : Cx} {e : Expr} {ta : TA} {p pos tpos : Pos} {elts : List Expr} {kk : Nat} (hg : Gl X "enumerate") (hm : X.mg "enumerate" = none) (ha : PA X [e] ta) (hs : starEach [e] X.env = [(false, eval e X.env)] := by rfl) :
    PI X (.Tuple elts kk tpos) (.Call (.Name "enumerate" p) [e] [] pos) (iEnumT X.K ta) := by
  refine ⟨fun pins s σ H R I h => ?_⟩
  refine Call_ (ld_blt I hg hm boot_enumerate (PyProof.Rows.callWith_type1 (thn (ha.run pos pins s σ H _ I h) fun us s1 ⟨vs, H1, I1, r1, q1⟩ => ?_) hs rfl))
  obtain ⟨a, xs, ex, hq, q⟩ := q1
  subst ex
  cases r1 with
  | cons r rr =>
    cases rr
    cases r
    obtain ⟨its, rv, p', hz⟩ := I1.tuple hq
    have hal : a < s1.heap.objs.size := by obtain ⟨_, q, _⟩ := p'; exact Heap.lt_size q
    refine call_enum1 (begins_tuple a its.toArray) p' fun h' he hit hsz hk => wpAny_pyIter_enum he ?_
    have I2 : Inv X pins σ H1 { s1 with heap := h' } := I1.kept (t' := s1.toks) hk
    refine ⟨s1.heap.objs.size + 1, [s1.heap.objs.size + 1, s1.heap.objs.size], _, _, H1, rfl, I2, turn_enumT a (s1.heap.objs.size + 1) s1.heap.objs.size (Nat.ne_of_lt hal) (Nat.ne_of_gt (Nat.lt_succ_of_lt hal)), ⟨⟨.none, he⟩, ⟨_, hit, rfl, rfl⟩, Nat.succ_ne_self _⟩, fun b hb => ?_, q⟩
    have e' : b = s1.heap.objs.size + 1 ∨ b = s1.heap.objs.size := by simpa using hb
    have hle : s1.heap.objs.size ≤ b := by
      rcases e' with z | z
      · rw [z]; exact Nat.le_add_right _ _
      · rw [z]; exact Nat.le_refl _
    exact I1.fpOk hle (I1.hok.fresh hle)
theorem walk_enumT {K : PySem.W.Frag} {a : Addr} {xs : List V} : Walk (IteT K a) xs.length (fun H => SqT K H a xs) (YPair (fun i => some (.int (i : Nat))) (fun i => xs[i]?)) := by
  refine ⟨fun i _ hi q => ⟨xs, xs[i], q, by simp [hi]⟩, fun _ q => ⟨xs, q, Nat.le_refl _⟩, fun i H v H' _ q y => ?_⟩
  obtain ⟨T, x, h1, h2, h3, h4⟩ := y
  exact ⟨T, .int (i : Nat), x, h1, h2, h3, rfl, h4 xs q⟩
section
variable {α β γ S R : Type} {X : Cx} {ρ : Rho} {a b c e : Expr} {pos p : Pos}
theorem pit_enumT {ma : Option (List α)} {f : α → D} {tpos : Pos} {elts : List Expr} {kk : Nat} (hg : Gl X "enumerate") (hm : X.mg "enumerate" = none) (ha : PV X ρ a ma (aD (dT f))) (hs : starEach [a] X.env = [(false, eval a X.env)] := by rfl) :
    PIt X ρ (.Tuple elts kk tpos) (.Call (.Name "enumerate" p) [a] [] pos) (ma.bind enumT) (d2 dI f) true := .mk fun its e σ F H R Rq q => by
  obtain ⟨xs, ex, e⟩ := bind_some e
  cases e
  refine PI.to (pi_enumT hg hm (pa_cons pE pa_nil hs) hs) (ha xs ex σ F H R _ fun v F1 H1 x1 d1 => ?_)
  obtain ⟨pa, va, rfl, sa, da⟩ := dp_tup d1
  have hl : va.length = xs.length := by rw [DpAll.length da, List.length_map]
  refine ⟨pa, va, rfl, sqT_mono x1.fh sa, q _ F1 H1 x1 ?_⟩
  have w := walk_enumT (K := X.K) (a := pa) (xs := va)
  have hz : ((rngL 0 xs.length).zip xs).length = va.length := by rw [List.length_zip, hl]; unfold rngL; simp
  refine yields_pair (xs := fun i => some (.int (i : Nat))) (ys := fun i => va[i]?) (fun i F' H' hi gg => w.goes i H' (by omega) (sqT_mono gg.2 (sqT_mono gg.1 sa))) (fun F' H' gg => by rw [hz]; exact w.stops H' (sqT_mono gg.2 (sqT_mono gg.1 sa))) (fun i F' H' v H'' hi gg y => w.yields i H' v H'' (by omega) (sqT_mono gg.2 (sqT_mono gg.1 sa)) y) fun i F' H' z x y gg hz hx hy => ?_
  obtain ⟨hz1, hz2⟩ := List.getElem?_zip_eq_some.mp hz
  obtain ⟨dy, e2, k2⟩ := DpAll.get da hy
  rw [List.getElem?_map, hz2] at e2
  cases e2
  have hi : i < xs.length := (List.getElem?_eq_some_iff.mp hz2).1
  unfold rngL at hz1
  rw [List.getElem?_map, List.getElem?_range hi] at hz1
  have e1 : z.1 = (i : Int) := by
    have h' : (0 : Int) + (i : Int) = z.1 := Option.some.inj hz1
    omega
  refine ⟨?_, Dp.mono gg.1 k2⟩
  cases hx
  rw [e1]
  exact .int _
end

/-! ### range with a step -/
def range3 (i j c : Int) : Option (List Int) := if c ≠ 0 ∧ c.natAbs.log2 < 30 ∧ Builtin.Range.small i j c = true then some (rngC i c (Builtin.Range.rangeSize i j c).toNat) else none
theorem rangeSize_pos (i j c : Int) (hc : c ≠ 0) : 0 ≤ Builtin.Range.rangeSize i j c := by
  unfold Builtin.Range.rangeSize
  split
  · split
    · have := Int.ediv_nonneg (a := j - i - 1) (b := c) (by omega) (by omega)
      omega
    · omega
  · split
    · have := Int.ediv_nonneg (a := i - j - 1) (b := -c) (by omega) (by omega)
      omega
    · omega
section
variable {α β γ S R : Type} {X : Cx} {ρ : Rho} {a b c tg : Expr} {pos p : Pos}
theorem pit_range3 {m m' m'' : Option Int} (hg : Gl X "range") (hm : X.mg "range" = none) (h : PV X ρ a m (aD dI)) (h' : PV X ρ b m' (aD dI)) (h'' : PV X ρ c m'' (aD dI)) (hs : starEach [a, b, c] X.env = (false, eval a X.env) :: starEach [b, c] X.env := by rfl)
    (hs2 : starEach [b, c] X.env = (false, eval b X.env) :: starEach [c] X.env := by rfl) (hs3 : starEach [c] X.env = (false, eval c X.env) :: starEach [] X.env := by rfl) (hpl : (backTo pos (starEach [b, c] X.env)).any (·.1) = false := by rfl) :
    PIt X ρ tg (.Call (.Name "range" p) [a, b, c] [] pos) (m.bind fun i => m'.bind fun j => m''.bind fun k => range3 i j k) dI true := .mk fun its e σ F H R Rq q => by
  obtain ⟨i, ei, e⟩ := bind_some e
  obtain ⟨j, ej, e⟩ := bind_some e
  obtain ⟨k, ek, e⟩ := bind_some e
  obtain ⟨⟨b1, b2, b3⟩, rfl⟩ := ite_some e
  refine PI.to (pi_range3 hg hm (pa_cons pE (pa_cons pE (pa_cons pE pa_nil hs3) hs2) hs) hs hpl) (h i ei σ F H R _ fun v F1 H1 x1 d1 => h' j ej σ F1 H1 (R.ext x1) _ fun u F2 H2 x2 d2 => h'' k ek σ F2 H2 (R.ext (x1.trans x2)) _ fun w F3 H3 x3 d3 => ?_)
  cases dp_int d1
  cases dp_int d2
  cases dp_int d3
  refine ⟨i, j, k, (Builtin.Range.rangeSize i j k).toNat, rfl, ⟨b1, ?_, b3, by have := rangeSize_pos i j k b1; omega⟩, q _ F3 H3 ((x1.trans x2).trans x3) yields_rangeC⟩
  by_cases z : k.natAbs = 0
  · omega
  · exact (Nat.log2_lt z).mp b2
end

/-! ### a value that may be none, where it is not -/
section
variable {α β : Type} {X : Cx} {ρ : Rho} {e : Expr} {f : α → D}
theorem pv_un {m : Option (Option α)} (h : PV X ρ e m (aD (dO f))) : PV X ρ e (m.bind fun o => o) (aD f) := pv_eqv (fun o => o) h fun x y exy => by
  have exy : x = some y := exy
  subst exy
  rfl
end

/-! ### for over an own list that stands meanwhile: it is lent to the loop -/
section
variable {K : PySem.W.Frag} {ρ : Rho} {σ : L2.St} {F H : Hp} {j : Nat} {p : Addr} {ds : List D}
theorem get_set_ne {i : Nat} {s : Sl} (h : i ≠ j) : (ρ.set j s)[i]? = ρ[i]? := by rw [List.getElem?_set_ne (Ne.symm h)]
theorem get_set_eq {s s' : Sl} (h : ρ[j]? = some s') : (ρ.set j s)[j]? = some s := by
  rw [List.getElem?_set_self]
  exact (List.getElem?_eq_some_iff.mp h).1
theorem own_brw (h : ρ[j]? = some (.own ds)) (i : Nat) (b : Addr) : ownAt (ρ.set j (.brw p ds)) σ i b ↔ ownAt ρ σ i b := by
  by_cases e : i = j
  · subst e
    constructor
    · rintro ⟨a, s, b, c⟩
      exact ⟨a, _, h, rfl⟩
    · rintro ⟨a, s, b, c⟩
      exact ⟨a, _, get_set_eq h, rfl⟩
  · unfold ownAt
    rw [get_set_ne e]
theorem owns_brw (h : ρ[j]? = some (.own ds)) (b : Addr) : owns (ρ.set j (.brw p ds)) σ b ↔ owns ρ σ b :=
  ⟨fun ⟨i, z⟩ => ⟨i, (own_brw h i b).mp z⟩, fun ⟨i, z⟩ => ⟨i, (own_brw h i b).mpr z⟩⟩
theorem rel_lend (R : Rel K ρ σ F H) (h : ρ[j]? = some (.own ds)) (e : σ[j]? = some (some (.ref p))) : Rel K (ρ.set j (.brw p ds)) σ F H where
  sub := R.sub
  at_ := fun i s es => by
    by_cases q : i = j
    · subst q
      rw [get_set_eq h] at es
      cases es
      obtain ⟨p', vs, e1, hp, hf, hd⟩ := R.at_ i _ h
      rw [e] at e1
      cases e1
      exact ⟨vs, e, hp, hf, hd⟩
    · rw [get_set_ne q] at es
      exact R.at_ i s es
  dis := fun i k b h1 h2 => R.dis i k b ((own_brw h i b).mp h1) ((own_brw h k b).mp h2)
  len := by rw [List.length_set]; exact R.len
theorem rel_unlend (h : ρ[j]? = some (.own ds)) (R : Rel K (ρ.set j (.brw p ds)) σ F H) : Rel K ρ σ F H where
  sub := R.sub
  at_ := fun i s es => by
    by_cases q : i = j
    · subst q
      rw [h] at es
      cases es
      obtain ⟨vs, e1, hp, hf, hd⟩ := R.at_ i _ (get_set_eq h)
      exact ⟨p, vs, e1, hp, hf, hd⟩
    · exact R.at_ i s (by rw [get_set_ne q]; exact es)
  dis := fun i k b h1 h2 => R.dis i k b ((own_brw h i b).mpr h1) ((own_brw h k b).mpr h2)
  len := by have := R.len; rw [List.length_set] at this; exact this
end
section
variable {X : Cx} {ρ : Rho} {S R γ : Type} {tg e : Expr} {body : List Stmt} {pos py : Pos} {E : S → Rho} {fr : R → Fin} {j : Nat} {y : Str}
theorem fx_lend {σ : L2.St} {F H F' H' : Hp} {p : Addr} {ds : List D} (h : ρ[j]? = some (.own ds)) (f : Fx (ρ.set j (.brw p ds)) σ F H F' H') : Fx ρ σ F H F' H' :=
  ⟨f.sub, f.ff, fun b o e n => f.hh b o e fun z => n ((owns_brw h b).mp z), fun b o e => (f.nw b o e).elim .inl fun z => .inr (z.elim .inl fun z => .inr ((owns_brw h b).mp z))⟩
theorem for_readingG {G : Hp → Hp → Prop} {J : It} {its : List γ} {fx : γ → D} {g : TG} {tb : TS} {vs : List Nat} {u : γ → Rho → Rho} {mb : γ → S → Option (Sum S R)} {s0 : S} {σ : L2.St} {F1 H1 : Hp} {r : Sum S R} {De : Ends}
    (hJ : Yields X.K J G (its.map fx)) (hG : ∀ s σ F H, Rel X.K (E s) σ F H → G F H) (Rl : Rel X.K (E s0) σ F1 H1) (gv : GV X.K g fx u vs) (hm : forM its mb s0 = some r) (hbk : ∀ r, (fr r).isBk = false) (q : SOk X (E s0) σ F1 H1 De E fr r)
    (hb : ∀ x s r, mb x s = some r → ∀ (σ : L2.St) (F H : Hp), Rel X.K (u x (E s)) σ F H → ∀ De : Ends, SOk X (u x (E s)) σ F H De E fr r → tb De σ H) :
    ∃ W : Nat → Nat → L2.St → Hp → Prop, (∃ m, W 0 m σ H1) ∧ ∀ i m σ H, W i m σ H →
      (J.stop i H ∧ De.nx σ H) ∨ (J.go i H ∧ ∃ N : L2.St → Hp → Prop, (∀ σ' H', N σ' H' → ∃ m', m' < m ∧ W (i + 1) m' σ' H') ∧ ∀ x H', J.yld i H x H' → g x σ H' fun σ2 H2 => tb { De with nx := N, ct := N, bk := De.nx } σ2 H2) := by
  have len : (its.map fx).length = its.length := List.length_map _
  let P : Nat → L2.St → Hp → Prop := fun i σ' H => i ≤ its.length ∧ ∃ (F : Hp) (s : S), Rel X.K (E s) σ' F H ∧ forM (its.drop i) mb s = some r ∧ SOk X (E s) σ' F H De E fr r
  refine ⟨fun i m σ' H => m = its.length - i ∧ P i σ' H, ⟨its.length, rfl, Nat.zero_le _, F1, s0, Rl, hm, q⟩, ?_⟩
  rintro i m σ' H ⟨rfl, hi, F, s, R', hleft, q'⟩
  have gg : G F H := hG s σ' F H R'
  by_cases hlt : i < its.length
  · refine .inr ⟨hJ.go i F H (by rw [len]; exact hlt) gg, P (i + 1), fun σ2 H2 p' => ⟨its.length - (i + 1), by omega, rfl, p'⟩, fun v H' y => ?_⟩
    have hit : its[i]? = some its[i] := List.getElem?_eq_getElem hlt
    obtain ⟨F', x2, d2⟩ := hJ.yld i F H v H' (fx its[i]) gg R'.sub (by rw [List.getElem?_map, hit]; rfl) y
    refine gv its[i] v _ _ F' H' (R'.ext x2) d2 _ fun σ2 R2 f2 _ => ?_
    rw [List.drop_eq_getElem_cons hlt] at hleft
    unfold forM at hleft
    have fr1 : Fr (E s) σ' F H (u its[i] (E s)) σ2 F' H' := (Fr.of_ext x2).trans f2
    cases hmb : mb its[i] s with
    | none => rw [hmb] at hleft; cases hleft
    | some o =>
      rw [hmb] at hleft
      refine hb its[i] s o hmb σ2 F' H' R2 _ ?_
      cases o with
      | inl s' =>
        intro σ3 F3 H3 R3 f3
        exact ⟨hlt, F3, s', R3, hleft, q'.pre (fr1.trans f3)⟩
      | inr z =>
        cases hleft
        exact FinOk.pre fr1 (FinOk.nobk (De := De) (hbk z) rfl q')
  · have e : i = its.length := by omega
    subst e
    rw [List.drop_length] at hleft
    cases hleft
    exact .inl ⟨by rw [← len]; exact hJ.stop F H gg, q' σ' F H R' (fr_refl R'.sub)⟩
theorem s1_forB {fx : γ → D} {g : TG} {u : γ → Rho → Rho} {vs : List Nat} {xs : List γ} {mb : γ → S → Option (Sum S R)} {s0 : S} (n : Nm X.N X.env.scope j y) (hp : PassesOwn (model X.prog X.w) X.A X.env X.xe) (hc : X.calm = true) (hE : ∀ s, (E s)[j]? = some (.own (xs.map fx))) (hg : PG X tg g) (gv : GV X.K g fx u vs) (h0 : E s0 = ρ)
    (hb : ∀ p x s, SV X (u x ((E s).set j (.brw p (xs.map fx)))) body (mb x s) (fun s => (E s).set j (.brw p (xs.map fx))) fr) (hbk : ∀ r, (fr r).isBk = false) (hs : ∀ x, foldedSetIterable (.Name y py) X.env x = pure x := by intro _; rfl) :
    S1 X ρ (.For tg (.Name y py) body [] pos) (forM xs mb s0) E fr := .mk fun r er σ F H Rl De q => by
  subst h0
  obtain ⟨p, vs0, e0, hp0, hf0, hd0⟩ := Rl.at_ j _ (hE s0)
  have Rl' := rel_lend Rl (hE s0) e0
  have q' : SOk X ((E s0).set j (.brw p (xs.map fx))) σ F H De (fun s => (E s).set j (.brw p (xs.map fx))) fr r := by
    cases r with
    | inl s =>
      intro σ' F' H' R' f'
      refine q σ' F' H' (rel_unlend (hE s) R') ⟨f'.ff, fun b o e nn => f'.hh b o e fun z => nn ((owns_brw (hE s0) b).mp z), fun b o e => (f'.nw b o e).elim .inl fun z => .inr (z.elim .inl fun z => .inr ((owns_brw (hE s0) b).mp z)), fun b z => (f'.ow b ((owns_brw (hE s) b).mpr z)).elim (fun z => .inl ((owns_brw (hE s0) b).mp z)) .inr, f'.there⟩
    | inr z =>
      have q2 : FinOk X (E s0) σ F H De (fr z) := q
      show FinOk X _ σ F H De (fr z)
      cases hz : fr z with
      | rt d bs =>
        rw [hz] at q2
        exact fun v F' H' f' l d' => q2 v F' H' (fx_lend (hE s0) f') l d'
      | rn dss bs =>
        rw [hz] at q2
        exact fun p' vs' F' H' f' l hn hp' hf ho d' => q2 p' vs' F' H' (fx_lend (hE s0) f') l (hn.elim .inl fun z => .inr ((owns_brw (hE s0) p').mp z)) hp' hf ho d'
      | bk ρ' => have := hbk z; rw [hz] at this; cases this
  refine PS.to (ps_for hp hc (pI X) hg pSs hs) (PI.to (pi_list (pe_var n.hN n.hv n.hd n.hcd)) ⟨.ref p, e0, p, rfl, ⟨vs0, SqL.of hp0⟩, ?_⟩)
  exact for_readingG (E := fun s => (E s).set j (.brw p (xs.map fx))) (G := fun F' H' => ∃ vs, H' p = some (.lst vs) ∧ DpAll X.K F' vs (xs.map fx)) (by
    refine ⟨fun i F H hi g => ?_, fun F H g => ?_, fun i F H x H' d g s hd y => ?_⟩
    · obtain ⟨vs, a, b⟩ := g
      have hi' : i < vs.length := by rw [DpAll.length b]; exact hi
      exact ⟨vs, vs[i], SqL.of a, by simp [hi']⟩
    · obtain ⟨vs, a, b⟩ := g
      exact ⟨vs, SqL.of a, by rw [DpAll.length b]; exact Nat.le_refl _⟩
    · obtain ⟨vs, a, b⟩ := g
      obtain ⟨rfl, y⟩ := y
      obtain ⟨v, hv, hdv⟩ := DpAll.get' b hd
      have := y vs (SqL.of a)
      rw [hv] at this
      cases this
      exact ⟨F, Ext.refl s, hdv⟩) (fun s σ F H R' => by
    obtain ⟨vs, _, a, _, b⟩ := R'.at_ j _ (get_set_eq (hE s))
    exact ⟨vs, a, b⟩) Rl' gv er hbk q' fun x s r em σ F H R De qq => hb p x s r em σ F H R De qq
theorem nbw {α : Type} {f : α → D} {z : List α} {p : Addr} {pos : Pos} {x : Str} {i : Nat} (n : Nm X.N X.env.scope i x) (hρ : ρ[i]? = some (.brw p (z.map f))) : PV X ρ (.Name x pos) (some z) (aL f) := .mk fun a ea σ F H R Q q => by
  cases ea
  obtain ⟨vs, e, hp, hf, hd⟩ := R.at_ i _ hρ
  exact PE.to (pe_var n.hN n.hv n.hd n.hcd) ⟨.ref p, e, q _ F H (Ext.refl R.sub) ⟨p, vs, rfl, SqL.of hp, hd⟩⟩
theorem n1_forB {fx : γ → D} {g : TG} {u : γ → Rho → Rho} {vs : List Nat} {xs : List γ} {mb : γ → S → Option S} {s0 : S} (n : Nm X.N X.env.scope j y) (hp : PassesOwn (model X.prog X.w) X.A X.env X.xe) (hc : X.calm = true) (hE : ∀ s, (E s)[j]? = some (.own (xs.map fx))) (hg : PG X tg g) (gv : GV X.K g fx u vs) (h0 : E s0 = ρ)
    (hb : ∀ p x s, SN X (u x ((E s).set j (.brw p (xs.map fx)))) body (mb x s) (fun s => (E s).set j (.brw p (xs.map fx)))) (hs : ∀ x, foldedSetIterable (.Name y py) X.env x = pure x := by intro _; rfl) : N1 X ρ (.For tg (.Name y py) body [] pos) (forN xs mb s0) E := .mk fun R fr => .mk fun r er => by
  obtain ⟨s, es, er⟩ := bind_some er
  cases er
  intro σ F H Rl De q
  refine s1_forB (fr := fun z : Empty => z.elim) n hp hc hE hg gv h0 (fun p x s => hb p x s _ _) (fun z => z.elim) hs (.inl s) ?_ σ F H Rl De q
  show forM xs _ s0 = _
  rw [forM_N, es]
  rfl
end

/-! ### the mirrors' plain facts, as rewritings (nothing for the kernel to count out) -/
theorem nr {α : Type} {a b : α} (h : a = b) : a = b := by
  cases h
  rfl
theorem obs {α β : Type} {x : α} {f : α → Option β} : (some x).bind f = f x := nr rfl
theorem oba {α β γ : Type} {m : Option α} {f : α → Option β} {g : β → Option γ} : (m.bind f).bind g = m.bind fun x => (f x).bind g := by cases m <;> rfl
theorem addI_ (x y : Int) : addI x y = some (x + y) := nr rfl
theorem subI_ (x y : Int) : subI x y = some (x - y) := nr rfl
theorem ltI_ (x y : Int) : ltI x y = some (decide (x < y)) := nr rfl
theorem leI_ (x y : Int) : leI x y = some (decide (x ≤ y)) := nr rfl
theorem gtI_ (x y : Int) : gtI x y = some (decide (y < x)) := nr rfl
theorem geI_ (x y : Int) : geI x y = some (decide (y ≤ x)) := nr rfl
theorem eqT_ {α : Type} [DecidableEq α] (x y : α) : eqT x y = some (decide (x = y)) := nr rfl
theorem neT_ {α : Type} [DecidableEq α] (x y : α) : neT x y = some (!decide (x = y)) := nr rfl
theorem inT_ {α : Type} [DecidableEq α] (x : α) (xs : List α) : inT x xs = some (inB x xs) := nr rfl
theorem notInT_ {α : Type} [DecidableEq α] (x : α) (xs : List α) : notInT x xs = some (!inB x xs) := nr rfl
theorem noneT_ {α : Type} (x : Option α) : noneT x = some x.isNone := nr rfl
theorem someT_ {α : Type} (x : Option α) : someT x = some x.isSome := nr rfl
theorem lenT_ {α : Type} (xs : List α) : lenT xs = some (xs.length : Int) := nr rfl
theorem sumT_ (xs : List Int) : sumT xs = some xs.sum := nr rfl
theorem anyT_ (xs : List Bool) : anyT xs = some (xs.any _root_.id) := nr rfl
theorem allT_ (xs : List Bool) : allT xs = some (xs.all _root_.id) := nr rfl

/-! ### a slice of what an effect call gives -/
section
variable {α : Type} {X : Cx} {ρ : Rho} {a : Expr} {pos p2 : Pos} {E : Fd → Rho}
theorem en_slice {f : α → D} {ma : Option (List α × Fd)} {ml mh : Option (Option Int)} {lo hi : Option Expr} (ha : EV X ρ E a ma (dL f)) (hl : ∀ s, POp X (E s) lo ml) (hh : ∀ s, POp X (E s) hi mh) :
    EN X ρ E (.Subscript a (.Slice lo hi none p2) pos) (ma.bind fun xs => ml.bind fun i => mh.bind fun j => some (cutL xs.1 i j, xs.2)) (fun xs => xs.map f) := .mk fun r er σ F H R Q q => by
  obtain ⟨x, ex, er⟩ := bind_some er
  obtain ⟨i, ei, er⟩ := bind_some er
  obtain ⟨j, ej, er⟩ := bind_some er
  cases er
  obtain ⟨tl, pl, kl⟩ := hl x.2 i ei
  obtain ⟨th, ph, kh⟩ := hh x.2 j ej
  refine PE.to (pe_slice sl_list pE pl ph) (ha x ex σ F H R _ fun v F1 H1 R1 g1 d1 => kl σ F1 H1 R1 _ fun F2 H2 x2 => kh σ F2 H2 (R1.ext x2) _ fun F3 H3 x3 => ?_)
  obtain ⟨p, vs, rfl, hs, hd⟩ := dp_lst (show Dp X.K F1 v (.list (x.1.map f)) from d1)
  have x23 := x2.trans x3
  have R3 := R1.ext x23
  refine ⟨p, vs, rfl, x23.hh.seq (R1.sub.seq hs), fun l hl => ?_⟩
  have x4 := Ext.newOwn R3.sub hl (.lst (cutV vs i j))
  have g4 := g1.trans (Fr.of_ext (x23.trans x4))
  refine q l _ F3 _ (R3.ext x4) g4 (g1.there l (x23.hh.free hl)) upd_same (R3.sub.free hl) (fun o => ?_) ?_
  · obtain ⟨ws, hw, _⟩ := R3.own_lst o
    rw [hl] at hw
    cases hw
  · show DpAll _ _ _ (List.map f (cutL x.1 i j))
    rw [cutL_map]
    exact DpAll.cut (DpAll.mono x23.ff hd) i j
end
end VS
set_option Elab.async false
set_option linter.all false
set_option maxRecDepth 100000
namespace VS
open PySem PySem.Spec PyProof.Rows L2

/-! ### plain Lean: what the mirrors say -/
section
variable {α β γ S R : Type} {P : α → Prop} {Q : β → Prop}
def Ok (m : Option α) (P : α → Prop) : Prop := ∃ a, m = some a ∧ P a
theorem Ok.of {a : α} (h : P a) : Ok (some a) P := ⟨a, rfl, h⟩
theorem Ok.bind {m : Option α} {k : α → Option β} (h : Ok m P) (hk : ∀ a, P a → Ok (k a) Q) : Ok (m.bind k) Q := by
  obtain ⟨a, rfl, p⟩ := h
  exact hk a p
theorem Ok.mono {m : Option α} {P' : α → Prop} (h : Ok m P) (hp : ∀ a, P a → P' a) : Ok m P' := by
  obtain ⟨a, e, p⟩ := h
  exact ⟨a, e, hp a p⟩
theorem Ok.eq {m : Option α} {a : α} (h : Ok m (· = a)) : m = some a := by
  obtain ⟨b, e, rfl⟩ := h
  exact e
theorem Ok.by {m : Option α} {a : α} (e : m = some a) (h : P a) : Ok m P := ⟨a, e, h⟩
theorem ok_forN {I : List γ → S → Prop} {mb : γ → S → Option S} (hs : ∀ x r s, I (x :: r) s → Ok (mb x s) (I r)) : ∀ {its : List γ} {s : S}, I its s → Ok (forN its mb s) (I [])
  | [], s, h => ⟨s, rfl, h⟩
  | x :: r, s, h => by
    show Ok ((mb x s).bind fun s => forN r mb s) _
    exact (hs x r s h).bind fun s' h' => ok_forN hs h'
theorem ok_forN_mem {I : S → Prop} {mb : γ → S → Option S} {its : List γ} (hs : ∀ x ∈ its, ∀ s, I s → Ok (mb x s) I) {s : S} (h : I s) : Ok (forN its mb s) I := by
  refine (ok_forN (I := fun r s => (∀ x ∈ r, x ∈ its) ∧ I s) (fun x r s h => ?_) ⟨fun _ h => h, h⟩).mono fun s h => h.2
  exact (hs x (h.1 x List.mem_cons_self) s h.2).mono fun s' h' => ⟨fun y hy => h.1 y (List.mem_cons_of_mem _ hy), h'⟩
/-- by the number of turns -/
theorem ok_forN_ix {I : Nat → S → Prop} {mb : γ → S → Option S} {its : List γ} (hs : ∀ k x s, its[k]? = some x → I k s → Ok (mb x s) (I (k + 1))) {s : S} (h : I 0 s) : Ok (forN its mb s) (I its.length) := by
  refine (ok_forN (I := fun r s => ∃ k, its.drop k = r ∧ k ≤ its.length ∧ I k s) (fun x r s h => ?_) ⟨0, rfl, Nat.zero_le _, h⟩).mono fun s h => ?_
  · obtain ⟨k, hd, hk, hi⟩ := h
    have hx : its[k]? = some x := by
      have := congrArg (·[0]?) hd
      simpa using this
    have hr : its.drop (k + 1) = r := by
      have := congrArg (List.drop 1) hd
      rw [List.drop_drop] at this
      simpa using this
    have hl : k + 1 ≤ its.length := by
      have := (List.getElem?_eq_some_iff.mp hx).1
      omega
    exact (hs k x s hx hi).mono fun s' h' => ⟨k + 1, hr, hl, h'⟩
  · obtain ⟨k, hd, hk, hi⟩ := h
    have : its.length - k = 0 := by simpa using congrArg List.length hd
    have e : k = its.length := by omega
    rw [← e]; exact hi
theorem ok_forM {I : List γ → S → Prop} {mb : γ → S → Option (Sum S R)} (hs : ∀ x r s, I (x :: r) s → Ok (mb x s) (fun z => ∃ s', z = .inl s' ∧ I r s')) : ∀ {its : List γ} {s : S}, I its s → Ok (forM its mb s) (fun z => ∃ s', z = .inl s' ∧ I [] s')
  | [], s, h => ⟨.inl s, rfl, s, rfl, h⟩
  | x :: r, s, h => by
    obtain ⟨z, e, s', rfl, h'⟩ := hs x r s h
    have : forM (x :: r) mb s = forM r mb s' := by
      show (match mb x s with | none => none | some (.inl s) => forM r mb s | some (.inr r) => some (.inr r)) = _
      rw [e]
    rw [this]
    exact ok_forM hs h'
theorem ok_forM_mem {I : S → Prop} {mb : γ → S → Option (Sum S R)} {its : List γ} (hs : ∀ x ∈ its, ∀ s, I s → Ok (mb x s) (fun z => ∃ s', z = .inl s' ∧ I s')) {s : S} (h : I s) : Ok (forM its mb s) (fun z => ∃ s', z = .inl s' ∧ I s') := by
  refine (ok_forM (I := fun r s => (∀ x ∈ r, x ∈ its) ∧ I s) (fun x r s h => ?_) ⟨fun _ h => h, h⟩).mono fun z h => ?_
  · exact (hs x (h.1 x List.mem_cons_self) s h.2).mono fun z ⟨s', e, h'⟩ => ⟨s', e, fun y hy => h.1 y (List.mem_cons_of_mem _ hy), h'⟩
  · obtain ⟨s', e, _, h'⟩ := h
    exact ⟨s', e, h'⟩
theorem ok_thenR {m : Option (Sum S R)} {k : S → Option R} {P : S → Prop} {Q : R → Prop} (h : Ok m (fun z => ∃ s, z = .inl s ∧ P s)) (hk : ∀ s, P s → Ok (k s) Q) : Ok (thenR m k) Q := by
  obtain ⟨z, rfl, s, rfl, p⟩ := h
  exact hk s p
theorem ok_sq {S' : Type} {m : Option (Sum S R)} {k : S → Option (Sum S' R)} {P : S → Prop} {Q : Sum S' R → Prop} (h : Ok m (fun z => ∃ s, z = .inl s ∧ P s)) (hk : ∀ s, P s → Ok (k s) Q) : Ok (sq m k) Q := by
  obtain ⟨z, rfl, s, rfl, p⟩ := h
  exact hk s p
theorem compG_map {me : γ → Option β} {f : γ → β} : ∀ {its : List γ}, (∀ x ∈ its, me x = some (f x)) → compG yesM me its = some (its.map f)
  | [], _ => rfl
  | x :: r, h => by
    have ih := compG_map (its := r) fun y hy => h y (List.mem_cons_of_mem _ hy)
    show ((yesM x).bind fun k => if k then (me x).bind fun y => (compG yesM me r).bind fun ys => some (y :: ys) else compG yesM me r) = _
    rw [ih, h x List.mem_cons_self]
    rfl
theorem compG_filter {mt : γ → Option Bool} {p : γ → Bool} {me : γ → Option β} {f : γ → β} : ∀ {its : List γ}, (∀ x ∈ its, mt x = some (p x)) → (∀ x ∈ its, p x = true → me x = some (f x)) → compG mt me its = some ((its.filter p).map f)
  | [], _, _ => rfl
  | x :: r, h, h2 => by
    have ih := compG_filter (its := r) (fun y hy => h y (List.mem_cons_of_mem _ hy)) fun y hy => h2 y (List.mem_cons_of_mem _ hy)
    show ((mt x).bind fun k => if k then (me x).bind fun y => (compG mt me r).bind fun ys => some (y :: ys) else compG mt me r) = _
    rw [ih, h x List.mem_cons_self]
    cases hp : p x with
    | true =>
      rw [h2 x List.mem_cons_self hp]
      rw [List.filter_cons_of_pos hp]
      rfl
    | false =>
      rw [List.filter_cons_of_neg (by rw [hp]; decide)]
      rfl
theorem compM_map {me : γ → Option β} {f : γ → β} {its : List γ} (hl : its.length ≤ sizeLine) (h : ∀ x ∈ its, me x = some (f x)) : compM its yesM me = some (its.map f) := by
  unfold compM
  rw [if_pos hl, compG_map h]
theorem compM_filter {mt : γ → Option Bool} {p : γ → Bool} {me : γ → Option β} {f : γ → β} {its : List γ} (hl : its.length ≤ sizeLine) (h : ∀ x ∈ its, mt x = some (p x)) (h2 : ∀ x ∈ its, p x = true → me x = some (f x)) : compM its mt me = some ((its.filter p).map f) := by
  unfold compM
  rw [if_pos hl, compG_filter h h2]
theorem ok_compG {me : γ → Option β} {Q : β → Prop} : ∀ {its : List γ}, (∀ x ∈ its, Ok (me x) Q) → Ok (compG yesM me its) (fun ys => ys.length = its.length ∧ ∀ y ∈ ys, Q y)
  | [], _ => ⟨[], rfl, rfl, fun _ h => nomatch h⟩
  | x :: r, h => by
    show Ok ((yesM x).bind fun k => if k then (me x).bind fun y => (compG yesM me r).bind fun ys => some (y :: ys) else compG yesM me r) _
    refine (h x List.mem_cons_self).bind fun y hy => (ok_compG (its := r) fun y hy => h y (List.mem_cons_of_mem _ hy)).bind fun ys hys => .of ⟨by rw [List.length_cons, List.length_cons, hys.1], fun z hz => ?_⟩
    rcases List.mem_cons.mp hz with rfl | hz
    · exact hy
    · exact hys.2 z hz
theorem ok_compM {me : γ → Option β} {Q : β → Prop} {its : List γ} (hl : its.length ≤ sizeLine) (h : ∀ x ∈ its, Ok (me x) Q) : Ok (compM its yesM me) (fun ys => ys.length = its.length ∧ ∀ y ∈ ys, Q y) := by
  unfold compM
  rw [if_pos hl]
  exact ok_compG h
end

/-! the feed -/
structure Fd.ok (fd : Fd) : Prop where
  at0 : 0 ≤ fd.at_
  big0 : 0 ≤ fd.big
  seed0 : 0 ≤ fd.seed
  seed1 : fd.seed < 2147483647
  few : fd.cells.length ≤ 1000
theorem feed0_ok {s : List Int} (h : s.length ≤ 63) : (feed0 s).ok := ⟨Int.le_refl _, Int.le_refl _, by show (0 : Int) ≤ 1; decide, by show (1 : Int) < 2147483647; decide, by show s.length ≤ 1000; omega⟩
theorem mulI_ok {x y : Int} (i j : Nat) (hx : x.natAbs < 2 ^ i) (hy : y.natAbs < 2 ^ j) (h : i + j ≤ 1000000) : mulI x y = some (x * y) := by
  have l : ∀ (n : Nat) k, n < 2 ^ k → n.log2 < k ∨ (n.log2 = 0 ∧ k = 0) := fun n k hn => by
    by_cases z : n = 0
    · subst z
      rcases Nat.eq_zero_or_pos k with e | e
      · exact .inr ⟨by decide, e⟩
      · exact .inl (by rw [show Nat.log2 0 = 0 from by decide]; exact e)
    · exact .inl ((Nat.log2_lt z).mpr hn)
  unfold mulI
  by_cases e : i + j = 0
  · have : x.natAbs.log2 = 0 ∧ y.natAbs.log2 = 0 := by
      rcases l _ _ hx with a | a <;> rcases l _ _ hy with b | b <;> omega
    rw [if_pos (by omega)]
  · rcases l _ _ hx with a | a <;> rcases l _ _ hy with b | b <;> (rw [if_pos (by omega)])
theorem mulI_small {x y : Int} (hx : x.natAbs < 2 ^ 200) (hy : y.natAbs < 2 ^ 200) : mulI x y = some (x * y) := mulI_ok 200 200 hx hy (by decide)
theorem modI_ok {x y : Int} (hy : 0 < y) : modI x y = some (x % y) := by
  unfold modI
  rw [if_pos (by omega), Int.fmod_eq_emod_of_nonneg _ (by omega)]
theorem divI_ok {x y : Int} (hy : 0 < y) (h : y.natAbs.log2 < 9000) : divI x y = some (x / y) := by
  unfold divI
  rw [if_pos ⟨by omega, h⟩, Int.fdiv_eq_ediv_of_nonneg _ (by omega)]
theorem atI_ok {α : Type} {xs : List α} {k : Int} (h0 : 0 ≤ k) (h1 : k < (xs.length : Int)) : atI xs k = some (xs[k.toNat]'(by omega)) := by
  have ek : k = ((k.toNat : Nat) : Int) := by omega
  have q : atI xs ((k.toNat : Nat) : Int) = some (xs[k.toNat]'(by omega)) := atI_nat (by rw [List.getElem?_eq_getElem])
  rw [← ek] at q
  exact q
theorem log2_small {n k : Nat} (h : n < 2 ^ k) (hk : 0 < k) : n.log2 < k := by
  by_cases z : n = 0
  · subst z; rw [show Nat.log2 0 = 0 from by decide]; exact hk
  · exact (Nat.log2_lt z).mpr h
theorem pow_18 : powI 10 18 = some 1000000000000000000 := by decide +kernel
theorem abs0 (c : Int) : 0 ≤ (if c < 0 then -c else c) := by split <;> omega
theorem draw1_ok {fd : Fd} (h : fd.ok) : Ok (draw1 fd) Fd.ok := by
  unfold draw1
  have he : eqT fd.big 0 = some (decide (fd.big = 0)) := rfl
  by_cases hb : fd.big = 0
  · by_cases hl : fd.at_ < (fd.cells.length : Int)
    · have e1 : VS.andM (eqT fd.big 0) ((lenT fd.cells).bind fun n => ltI fd.at_ n) = some true := by
        rw [he, decide_eq_true hb]
        show (ltI fd.at_ (fd.cells.length : Int)) = _
        unfold ltI
        rw [decide_eq_true hl]
      rw [e1]
      show Ok ((((atI fd.cells fd.at_).bind intI).bind absI).bind _) _
      obtain ⟨c, hc⟩ : ∃ c, atI fd.cells fd.at_ = some c := ⟨_, atI_ok h.at0 hl⟩
      rw [hc]
      show Ok (((powI 10 18).bind fun t => geI (if c < 0 then -c else c) t).bind _ |>.bind _) _
      generalize hcc : (if c < 0 then -c else c) = cell
      have hc0 : 0 ≤ cell := by rw [← hcc]; exact abs0 c
      rw [pow_18]
      show Ok ((if decide (1000000000000000000 ≤ cell) = true then _ else _ : Option Fd).bind _) _
      by_cases hc : 1000000000000000000 ≤ cell
      · rw [if_pos (decide_eq_true hc)]
        exact .of ⟨by show 0 ≤ fd.at_ + 1; have := h.at0; omega, hc0, h.seed0, h.seed1, h.few⟩
      · rw [if_neg (by rw [decide_eq_true_eq]; exact hc)]
        have hs0 := h.seed0
        have hs1 := h.seed1
        clear hcc
        rw [show mulI fd.seed 48271 = some (fd.seed * 48271) from mulI_small (by omega) (by decide), show mulI cell 69621 = some (cell * 69621) from mulI_small (by omega) (by decide)]
        show Ok ((modI (fd.seed * 48271 + cell * 69621 + (fd.at_ + 1)) 2147483647).bind _ |>.bind _) _
        rw [modI_ok (by decide)]
        exact .of ⟨by show 0 ≤ fd.at_ + 1; have := h.at0; omega, h.big0, by show 0 ≤ _ % _; omega, by show _ % _ < _; omega, h.few⟩
    · have e1 : VS.andM (eqT fd.big 0) ((lenT fd.cells).bind fun n => ltI fd.at_ n) = some false := by
        rw [he, decide_eq_true hb]
        show (ltI fd.at_ (fd.cells.length : Int)) = _
        unfold ltI
        rw [decide_eq_false hl]
      rw [e1]
      exact .of h
  · have e1 : VS.andM (eqT fd.big 0) ((lenT fd.cells).bind fun n => ltI fd.at_ n) = some false := by
      rw [he, decide_eq_false hb]
      rfl
    rw [e1]
    exact .of h
theorem draw2_ok {fd : Fd} {many : Int} (h : fd.ok) (h0 : 0 < many) (h1 : many.natAbs.log2 < 9000) : Ok (draw2 fd many) (fun r => 0 ≤ r.1 ∧ r.1 < many ∧ r.2.ok) := by
  unfold draw2
  have hb0 := h.big0
  by_cases hb : 0 < fd.big
  · rw [show gtI fd.big 0 = some true from by unfold gtI; rw [decide_eq_true hb]]
    show Ok ((modI fd.big many).bind _) _
    rw [modI_ok h0]
    show Ok ((divI fd.big many).bind _) _
    rw [divI_ok h0 h1]
    exact .of ⟨Int.emod_nonneg _ (by omega), Int.emod_lt_of_pos _ h0, h.at0, Int.ediv_nonneg hb0 (by omega), h.seed0, h.seed1, h.few⟩
  · rw [show gtI fd.big 0 = some false from by unfold gtI; rw [decide_eq_false hb]]
    show Ok (((((mulI fd.seed 16807).bind fun a => addI a 12345).bind intI).bind fun a => modI a 2147483647).bind _) _
    have hs0 := h.seed0
    have hs1 := h.seed1
    rw [show mulI fd.seed 16807 = some (fd.seed * 16807) from mulI_small (by omega) (by decide)]
    show Ok ((modI (fd.seed * 16807 + 12345) 2147483647).bind _) _
    rw [modI_ok (by decide)]
    generalize hs : (fd.seed * 16807 + 12345) % 2147483647 = sd
    have q0 : 0 ≤ sd := by omega
    have q1 : sd < 2147483647 := by omega
    show Ok (((((mulI sd sd).bind fun a => addI a sd).bind intI).bind fun a => modI a 2147483629).bind _) _
    rw [mulI_small (by omega) (by omega)]
    show Ok ((modI (sd * sd + sd) 2147483629).bind _) _
    rw [modI_ok (by decide)]
    generalize (sd * sd + sd) % 2147483629 = mx
    show Ok (((divI mx 11).bind fun a => modI a many).bind _) _
    rw [divI_ok (by decide) (by decide +kernel)]
    show Ok ((modI (mx / 11) many).bind _) _
    rw [modI_ok h0]
    exact .of ⟨Int.emod_nonneg _ (by omega), Int.emod_lt_of_pos _ h0, h.at0, h.big0, q0, q1, h.few⟩
theorem draw_ok {fd : Fd} {many : Int} (h : fd.ok) (h0 : 0 < many) (h1 : many.natAbs.log2 < 9000) : Ok (draw fd many) (fun r => 0 ≤ r.1 ∧ r.1 < many ∧ r.2.ok) :=
  (draw1_ok h).bind fun fd' h' => draw2_ok h' h0 h1
theorem draw_small {fd : Fd} {many : Int} (h : fd.ok) (h0 : 0 < many) (h1 : many < 2 ^ 62) : Ok (draw fd many) (fun r => 0 ≤ r.1 ∧ r.1 < many ∧ r.2.ok) :=
  draw_ok h h0 (Nat.lt_trans (log2_small (k := 62) (by omega) (by decide)) (by decide))
section
variable {γ β : Type}
theorem ok_compS {me : γ → Fd → Option (β × Fd)} {Q : β → Prop} : ∀ {its : List γ} {fd : Fd}, fd.ok → (∀ x ∈ its, ∀ fd : Fd, fd.ok → Ok (me x fd) (fun r => Q r.1 ∧ r.2.ok)) → Ok (compS yesE me its fd) (fun r => r.1.length = its.length ∧ (∀ y ∈ r.1, Q y) ∧ r.2.ok)
  | [], fd, h, _ => ⟨([], fd), rfl, ⟨rfl, ⟨(fun y hy => by cases hy), h⟩⟩⟩
  | x :: r, fd, h, hs => by
    have ih := @ok_compS me Q r
    show Ok ((yesE x fd).bind fun k => if k.1 then (me x k.2).bind fun y => (compS yesE me r y.2).bind fun ys => some (y.1 :: ys.1, ys.2) else compS yesE me r k.2) _
    refine (hs x List.mem_cons_self fd h).bind fun y hy => (ih hy.2 fun z hz => hs z (List.mem_cons_of_mem _ hz)).bind fun ys hys => .of ⟨by rw [List.length_cons, List.length_cons, hys.1], fun z hz => ?_, hys.2.2⟩
    rcases List.mem_cons.mp hz with rfl | hz
    · exact hy.1
    · exact hys.2.1 z hz
theorem ok_compE {me : γ → Fd → Option (β × Fd)} {Q : β → Prop} {its : List γ} {fd : Fd} (hl : its.length ≤ sizeLine) (h : fd.ok) (hs : ∀ x ∈ its, ∀ fd : Fd, fd.ok → Ok (me x fd) (fun r => Q r.1 ∧ r.2.ok)) : Ok (compE its yesE me fd) (fun r => r.1.length = its.length ∧ (∀ y ∈ r.1, Q y) ∧ r.2.ok) := by
  unfold compE
  rw [if_pos hl]
  exact ok_compS h hs
end
theorem range1_ok {n : Int} (h : n.natAbs < 2 ^ 62) : range1 n = some (rngL 0 n.toNat) := by
  unfold range1
  rw [if_pos (big_nat h)]
theorem range2_ok {i j : Int} (h : i.natAbs < 2 ^ 62) (h' : j.natAbs < 2 ^ 62) : range2 i j = some (rngL i (j - i).toNat) := by
  unfold range2
  rw [if_pos ⟨big_nat h, big_nat h'⟩]
theorem rngL_mem {lo x : Int} {n : Nat} (h : x ∈ rngL lo n) : lo ≤ x ∧ x < lo + n := by
  unfold rngL at h
  obtain ⟨k, hk, e⟩ := List.mem_map.mp h
  have := List.mem_range.mp hk
  omega
theorem rngL_length {lo : Int} {n : Nat} : (rngL lo n).length = n := by unfold rngL; simp
theorem rngL_get {lo x : Int} {n k : Nat} (h : (rngL lo n)[k]? = some x) : x = lo + k ∧ k < n := by
  unfold rngL at h
  rw [List.getElem?_map] at h
  by_cases hk : k < n
  · rw [List.getElem?_range hk] at h
    exact ⟨(Option.some.inj h).symm, hk⟩
  · rw [List.getElem?_eq_none (by simpa using Nat.le_of_not_lt hk)] at h
    cases h
theorem small_ok {n : Nat} (h : n ≤ 1000) : n ≤ sizeLine := Nat.le_of_lt (small1000 h)
theorem catT_ok {α : Type} {xs ys : List α} (h : xs.length + ys.length ≤ 1000) : catT xs ys = some (xs ++ ys) := by
  unfold catT
  rw [if_pos (small_ok h)]
theorem appT_ok {α : Type} {xs : List α} {y : α} (h : xs.length < 1000) : appT xs y = some (xs ++ [y]) := by
  unfold appT
  rw [if_pos (Nat.lt_of_lt_of_le (Nat.lt_succ_self _) (small_ok h))]
theorem andM_tt {b : Bool} {m : Option Bool} (h : b = true) : VS.andM (some b) m = m := by subst h; rfl
theorem andM_ff {b : Bool} {m : Option Bool} (h : b = false) : VS.andM (some b) m = some false := by subst h; rfl
theorem orM_ff {b : Bool} {m : Option Bool} (h : b = false) : VS.orM (some b) m = m := by subst h; rfl
theorem orM_tt {b : Bool} {m : Option Bool} (h : b = true) : VS.orM (some b) m = some true := by subst h; rfl
theorem inB_iff {α : Type} [DecidableEq α] {x : α} {xs : List α} : inB x xs = true ↔ x ∈ xs := by unfold inB; rw [decide_eq_true_eq]
end VS
set_option Elab.async false
set_option linter.all false
set_option maxRecDepth 100000
namespace VS
open PySem PySem.Spec PyProof.Rows L2

/-! ### plain Lean: more -/
section
variable {α β γ S R : Type} {P : α → Prop} {Q : β → Prop}
theorem ok_while {I : S → Prop} {μ : S → Nat} {c : S → Option Bool} {b : S → Option S} (hc : ∀ s, I s → Ok (c s) fun k => k = true → Ok (b s) fun s' => I s' ∧ μ s' < μ s) : ∀ (n : Nat) (s : S), I s → μ s < n → Ok (whileN n c b s) (fun s' => I s' ∧ c s' = some false)
  | 0, s, _, h => absurd h (by omega)
  | n + 1, s, hi, h => by
    show Ok ((c s).bind fun k => if k then (b s).bind fun s' => whileN n c b s' else some s) _
    obtain ⟨k, e, hk⟩ := hc s hi
    rw [e]
    cases k with
    | false => exact .of ⟨hi, e⟩
    | true =>
      show Ok ((b s).bind fun s' => whileN n c b s') _
      exact (hk rfl).bind fun s' h' => ok_while hc n s' h'.1 (by omega)
theorem ok_whileN {I : S → Prop} {μ : S → Nat} {c : S → Option Bool} {b : S → Option S} {s : S} (hi : I s) (hm : μ s < 1000000000) (hc : ∀ s, I s → Ok (c s) fun k => k = true → Ok (b s) fun s' => I s' ∧ μ s' < μ s) : Ok (whileN FUEL c b s) (fun s' => I s' ∧ c s' = some false) :=
  ok_while hc FUEL s hi (Nat.lt_of_lt_of_le hm fuel_ge)
theorem ok_whileMa {I : S → Prop} {μ : S → Nat} {c : S → Option Bool} {b : S → Option (Sum S R)} (hc : ∀ s, I s → Ok (c s) fun k => k = true → Ok (b s) fun z => ∃ s', z = .inl s' ∧ I s' ∧ μ s' < μ s) : ∀ (n : Nat) (s : S), I s → μ s < n → Ok (whileM n c b s) (fun z => ∃ s', z = .inl s' ∧ I s' ∧ c s' = some false)
  | 0, s, _, h => absurd h (by omega)
  | n + 1, s, hi, h => by
    show Ok ((c s).bind fun k => if k then sq (b s) fun s' => whileM n c b s' else some (.inl s)) _
    obtain ⟨k, e, hk⟩ := hc s hi
    rw [e]
    cases k with
    | false => exact .of ⟨s, rfl, hi, e⟩
    | true =>
      show Ok (sq (b s) fun s' => whileM n c b s') _
      exact ok_sq (hk rfl) fun s' h' => ok_whileMa hc n s' h'.1 (by omega)
theorem ok_whileM {I : S → Prop} {μ : S → Nat} {c : S → Option Bool} {b : S → Option (Sum S R)} {s : S} (hi : I s) (hm : μ s < 1000000000) (hc : ∀ s, I s → Ok (c s) fun k => k = true → Ok (b s) fun z => ∃ s', z = .inl s' ∧ I s' ∧ μ s' < μ s) : Ok (whileM FUEL c b s) (fun z => ∃ s', z = .inl s' ∧ I s' ∧ c s' = some false) :=
  ok_whileMa hc FUEL s hi (Nat.lt_of_lt_of_le hm fuel_ge)
theorem sameT_self {α : Type} [DecidableEq α] (a : α) : sameT (a, a) = some true := by unfold sameT; rw [if_pos rfl]
theorem sameT_eq {α : Type} [DecidableEq α] {a b : α} (h : a = b) : sameT (a, b) = some true := by unfold sameT; rw [if_pos h]
theorem sameS_eq {α : Type} [DecidableEq α] {f : α → D} {a b : α} (h : a = b) (H : sdA 7 (f b) = true) : sameS f (a, b) = some true := by subst h; exact sameS_ok H
/-- a turn of a for that only goes on, behind a test -/
theorem Ok.not {m : Option Bool} (h : m = some true) : (m.bind fun x => some (!x)) = some false := by rw [h]; rfl
end
theorem nat_lt {n i j : Nat} (h : n < 2 ^ i) (hij : i ≤ j) : n < 2 ^ j := Nat.lt_of_lt_of_le h (Nat.pow_le_pow_right (by decide) hij)
end VS
set_option Elab.async false
set_option linter.all false
set_option maxRecDepth 100000
namespace VS
open PySem PySem.Spec PyProof.Rows L2

/-! ### plain Lean: numbers -/
theorem isi_t2 {α β : Type} {f : α → D} {g : β → D} (x : α × β) : isiD "tuple" ((aD (d2 f g)) x).dat = some true := isi_tuple_tuple _
theorem isi_iI (x : Int) : isiD "int" ((aD dI) x).dat = some true := isi_int_int _
theorem isi_bI (x : Int) : isiD "bool" ((aD dI) x).dat = some false := isi_bool_int _
theorem size_ok {n : Nat} (h : n ≤ 10000000) : n ≤ sizeLine := by rw [sizeLine_eq]; omega
theorem sm200 {x : Int} (h : x.natAbs < 2 ^ 60) : x.natAbs < 2 ^ 200 := Nat.lt_trans h (by decide)
theorem mul_sm {x y : Int} (hx : x.natAbs < 2 ^ 60) (hy : y.natAbs < 2 ^ 60) : mulI x y = some (x * y) := mulI_small (sm200 hx) (sm200 hy)
theorem div_sm {x y : Int} (hy : 0 < y) (h : y.natAbs < 2 ^ 60) : divI x y = some (x / y) := divI_ok hy (Nat.lt_trans (log2_small (k := 60) h (by decide)) (by decide))
theorem mem_ok {α : Type} {xs : List α} {k : Int} (P : α → Prop) (h0 : 0 ≤ k) (h1 : k < (xs.length : Int)) (hP : ∀ x ∈ xs, P x) : Ok (atI xs k) P := ⟨_, atI_ok h0 h1, hP _ (List.getElem_mem _)⟩
theorem forM_all {γ R : Type} {its : List γ} {mb : γ → Unit → Option (Sum Unit R)} (h : ∀ x ∈ its, mb x () = some (.inl ())) : VS.forM its mb () = some (.inl ()) := by
  obtain ⟨z, e, s', rfl, _⟩ := ok_forM_mem (R := R) (I := fun _ : Unit => True) (its := its) (mb := mb) (fun x hx _ _ => ⟨_, h x hx, (), rfl, trivial⟩) (s := ()) trivial
  exact e
theorem len2 {α : Type} (a b : α) : (([a, b].length : Nat) : Int) = 2 := rfl
theorem len3 {α : Type} (a b c : α) : (([a, b, c].length : Nat) : Int) = 3 := rfl
theorem len4 {α : Type} (a b c d : α) : (([a, b, c, d].length : Nat) : Int) = 4 := rfl
def cop (x y : Int) : Prop := ∃ u v, x * u + y * v = 1
theorem low_loop {p w : Int} (hp : 0 ≤ p) (hw : 0 < w) (hp1 : p < 100000000) (hw1 : w < 100000000) :
    Ok (whileN FUEL (fun (s : Int × Int) => (some (!decide (s.2 = (0 : Int))) : Option Bool)) (fun (s : Int × Int) => ((modI s.1 s.2).bind fun rest => (some s.2).bind fun one => (some rest).bind fun two => some (one, two) : Option (Int × Int))) (p, w))
      (fun s => 0 < s.1 ∧ s.1 < 100000000 ∧ ∃ a c, p = s.1 * a ∧ w = s.1 * c ∧ cop a c) := by
  refine (ok_whileN (I := fun s : Int × Int => 0 ≤ s.1 ∧ 0 ≤ s.2 ∧ 0 < s.1 + s.2 ∧ s.2 < 100000000 ∧ s.1 < 100000000 ∧ (∃ u v, s.1 = p * u + w * v) ∧ (∃ u v, s.2 = p * u + w * v) ∧ (∃ a b, p = s.1 * a + s.2 * b) ∧ (∃ a b, w = s.1 * a + s.2 * b)) (μ := fun s => s.2.toNat) ⟨hp, Int.le_of_lt hw, by omega, hw1, hp1, ⟨1, 0, by omega⟩, ⟨0, 1, by omega⟩, ⟨1, 0, by omega⟩, ⟨0, 1, by omega⟩⟩ (by show w.toNat < _; omega) fun s hs => .of fun hk => ?_).mono fun s hs => ?_
  · obtain ⟨h1, h2, h3, h4, h5, ⟨u, v, e1⟩, ⟨u2, v2, e1'⟩, ⟨a, b, e2⟩, ⟨c, d, e3⟩⟩ := hs
    have h0 : s.2 ≠ 0 := by simpa using hk
    have hpos : 0 < s.2 := by omega
    rw [modI_ok hpos]
    have q1 := Int.emod_nonneg s.1 h0
    have q2 := Int.emod_lt_of_pos s.1 hpos
    have q3 := Int.mul_ediv_add_emod s.1 s.2
    generalize s.1 % s.2 = r at q1 q2 q3
    generalize s.1 / s.2 = k at q3
    refine .of ⟨⟨h2, q1, by show 0 < s.2 + r; omega, by show r < _; omega, h4, ⟨u2, v2, e1'⟩, ⟨u - k * u2, v - k * v2, ?_⟩, ⟨a * k + b, a, ?_⟩, ⟨c * k + d, c, ?_⟩⟩, by show r.toNat < s.2.toNat; omega⟩
    · show r = _
      grind
    · show p = s.2 * _ + r * _
      grind
    · show w = s.2 * _ + r * _
      grind
  · obtain ⟨⟨h1, h2, h3, h4, h5, ⟨u, v, e1⟩, _, ⟨a, b, e2⟩, ⟨c, d, e3⟩⟩, hf⟩ := hs
    have h0 : s.2 = 0 := by simpa using hf
    have hpos : 0 < s.1 := by omega
    rw [h0] at e2 e3
    refine ⟨hpos, h5, a, c, by grind, by grind, u, v, ?_⟩
    have : s.1 * (a * u + c * v) = s.1 * 1 := by grind
    exact Int.eq_of_mul_eq_mul_left (by omega) this
theorem low_ok {p w : Int} (hp : 0 ≤ p) (hw : 0 < w) (hp1 : p < 100000000) (hw1 : w < 100000000) :
    Ok ((whileN FUEL (fun (s : Int × Int) => (some (!decide (s.2 = (0 : Int))) : Option Bool)) (fun (s : Int × Int) => ((modI s.1 s.2).bind fun rest => (some s.2).bind fun one => (some rest).bind fun two => some (one, two) : Option (Int × Int))) (p, w)).bind fun s5 => (divI p s5.1).bind fun x9 => (divI w s5.1).bind fun x10 => some (x9, x10))
      (fun r => cop r.1 r.2 ∧ 0 ≤ r.1 ∧ r.1 ≤ p ∧ 0 < r.2 ∧ r.2 ≤ w ∧ ∃ g, 0 < g ∧ p = g * r.1 ∧ w = g * r.2) := by
  refine (low_loop hp hw hp1 hw1).bind fun s ⟨h1, h2, a, c, e1, e2, hc⟩ => ?_
  rw [div_sm h1 (by omega), div_sm h1 (by omega)]
  have ea : p / s.1 = a := by rw [e1]; exact Int.mul_ediv_cancel_left _ (by omega)
  have ec : w / s.1 = c := by rw [e2]; exact Int.mul_ediv_cancel_left _ (by omega)
  refine .of ?_
  show cop (p / s.1) (w / s.1) ∧ 0 ≤ p / s.1 ∧ p / s.1 ≤ p ∧ 0 < w / s.1 ∧ w / s.1 ≤ w ∧ ∃ g, 0 < g ∧ p = g * (p / s.1) ∧ w = g * (w / s.1)
  rw [ea, ec]
  have ha : 0 ≤ a := by rw [← ea]; exact Int.ediv_nonneg hp (by omega)
  have hc0 : 0 < c := by
    rcases Int.lt_or_le 0 c with z | z
    · exact z
    · have := Int.mul_le_mul_of_nonneg_left z (Int.le_of_lt h1)
      rw [Int.mul_zero, ← e2] at this
      omega
  refine ⟨hc, ha, ?_, hc0, ?_, s.1, h1, e1, e2⟩
  · rw [← ea]; exact Int.ediv_le_self _ hp
  · rw [← ec]; exact Int.ediv_le_self _ (Int.le_of_lt hw)
/-- the first one of a range with a test -/
theorem first_ok {lo : Int} {n : Nat} {q : Int → Bool} {o : Int} (h0 : lo ≤ o) (h1 : o < lo + n) (hq : q o = true) : ∃ f, atI ((rngL lo n).filter q) 0 = some f ∧ lo ≤ f ∧ f < lo + n ∧ q f = true := by
  have hm : o ∈ (rngL lo n).filter q := by
    rw [List.mem_filter]
    refine ⟨?_, hq⟩
    unfold rngL
    exact List.mem_map.mpr ⟨(o - lo).toNat, List.mem_range.mpr (by omega), by omega⟩
  cases e : (rngL lo n).filter q with
  | nil => rw [e] at hm; cases hm
  | cons f r =>
    have hf : f ∈ (rngL lo n).filter q := by rw [e]; exact List.mem_cons_self
    rw [List.mem_filter] at hf
    have := rngL_mem hf.1
    exact ⟨f, by rw [atI_ok (k := 0) (by decide) (by rw [List.length_cons]; omega)]; rfl, this.1, this.2, hf.2⟩
/-- a contrary of p by rests of w -/
theorem inv_ex {p w : Int} (hw : 0 < w) (h : cop p w) : ∃ o, 1 ≤ o ∧ o ≤ w ∧ (p * o - 1) % w = 0 := by
  obtain ⟨u, v, e⟩ := h
  have q1 := Int.emod_nonneg (u - 1) (by omega : w ≠ 0)
  have q2 := Int.emod_lt_of_pos (u - 1) hw
  have q3 := Int.mul_ediv_add_emod (u - 1) w
  generalize (u - 1) % w = r at q1 q2 q3
  generalize (u - 1) / w = k at q3
  refine ⟨r + 1, by omega, by omega, ?_⟩
  have : p * (r + 1) - 1 = w * (-(p * k) - v) := by grind
  rw [this]
  exact Int.mul_emod_right _ _
theorem mul_small {w k : Int} (hw : 0 < w) (h1 : w * k < w) (h2 : -w < w * k) : k = 0 := by
  rcases Int.lt_trichotomy k 0 with z | z | z
  · have := Int.mul_le_mul_of_nonneg_left (show k ≤ -1 by omega) (Int.le_of_lt hw)
    omega
  · exact z
  · have := Int.mul_le_mul_of_nonneg_left (show 1 ≤ k by omega) (Int.le_of_lt hw)
    omega
theorem inv_uniq {p w o l o' l' : Int} (hw : 0 < w) (h : cop p w) (e : p * o - l * w = 1) (e' : p * o' - l' * w = 1) (h1 : 1 ≤ o) (h2 : o ≤ w) (h1' : 1 ≤ o') (h2' : o' ≤ w) : o = o' ∧ l = l' := by
  obtain ⟨u, v, ec⟩ := h
  have e3 : o - o' = w * ((l - l') * u + (o - o') * v) := by grind
  have e4 := mul_small hw (k := (l - l') * u + (o - o') * v) (by omega) (by omega)
  rw [e4] at e3
  have e5 : o = o' := by omega
  subst e5
  refine ⟨rfl, ?_⟩
  have : w * l = w * l' := by grind
  exact Int.eq_of_mul_eq_mul_left (by omega) this
end VS
set_option Elab.async false
set_option linter.all false
set_option maxRecDepth 100000
namespace VS
open PySem PySem.Spec PyProof.Rows L2

/-! ### plain Lean: sorted -/
structure Od {α : Type} (lt : α → α → Bool) : Prop where
  irr : ∀ a, lt a a = false
  tr : ∀ a b c, lt a b = true → lt b c = true → lt a c = true
  tri : ∀ a b, lt a b = false → lt b a = false → a = b
def lessI (a b : Int) : Bool := decide (a < b)
def lt2 {α β : Type} [DecidableEq α] (l1 : α → α → Bool) (l2 : β → β → Bool) (a b : α × β) : Bool := if a.1 = b.1 then l2 a.2 b.2 else l1 a.1 b.1
theorem od_I : Od lessI := ⟨fun a => decide_eq_false (by omega), fun a b c h1 h2 => decide_eq_true (by have := of_decide_eq_true h1; have := of_decide_eq_true h2; omega), fun a b h1 h2 => by have := of_decide_eq_false h1; have := of_decide_eq_false h2; omega⟩
theorem od_2 {α β : Type} [DecidableEq α] {l1 : α → α → Bool} {l2 : β → β → Bool} (h1 : Od l1) (h2 : Od l2) : Od (lt2 l1 l2) := by
  refine ⟨fun a => ?_, fun a b c p q => ?_, fun a b p q => ?_⟩
  · unfold lt2
    rw [if_pos rfl]
    exact h2.irr _
  · unfold lt2 at *
    by_cases e1 : a.1 = b.1
    · rw [if_pos e1] at p
      by_cases e2 : b.1 = c.1
      · rw [if_pos e2] at q
        rw [if_pos (e1.trans e2)]
        exact h2.tr _ _ _ p q
      · rw [if_neg e2] at q
        rw [if_neg (by rw [e1]; exact e2), e1]
        exact q
    · rw [if_neg e1] at p
      by_cases e2 : b.1 = c.1
      · rw [if_neg (by rw [← e2]; exact e1), ← e2]
        exact p
      · rw [if_neg e2] at q
        have r := h1.tr _ _ _ p q
        rw [if_neg (fun z => ?_)]
        · exact r
        · rw [z, h1.irr] at r
          cases r
  · unfold lt2 at *
    by_cases e1 : a.1 = b.1
    · rw [if_pos e1] at p
      rw [if_pos e1.symm] at q
      exact Prod.ext e1 (h2.tri _ _ p q)
    · rw [if_neg e1] at p
      rw [if_neg (Ne.symm e1)] at q
      exact absurd (h1.tri _ _ p q) e1
def ins {α : Type} (lt : α → α → Bool) (x : α) : List α → List α
  | [] => [x]
  | y :: r => if lt y x then y :: ins lt x r else x :: y :: r
def isort {α : Type} (lt : α → α → Bool) : List α → List α
  | [] => []
  | x :: r => ins lt x (isort lt r)
section
variable {α β γ δ : Type} {lt : α → α → Bool}
theorem ins_perm (x : α) : ∀ xs : List α, (ins lt x xs).Perm (x :: xs)
  | [] => List.Perm.refl _
  | y :: r => by
    unfold ins
    split
    · exact ((ins_perm x r).cons y).trans (List.Perm.swap x y r)
    · exact List.Perm.refl _
theorem isort_perm : ∀ xs : List α, (isort lt xs).Perm xs
  | [] => List.Perm.refl _
  | x :: r => (ins_perm x _).trans ((isort_perm r).cons x)
theorem Od.le_tr (h : Od lt) {a b c : α} (p : lt b a = false) (q : lt c b = false) : lt c a = false := by
  cases e : lt c a with
  | false => rfl
  | true =>
    cases e2 : lt a b with
    | true => rw [h.tr _ _ _ e e2] at q; cases q
    | false =>
      have := h.tri _ _ e2 p
      subst this
      rw [e] at q; cases q
theorem ins_sorted (h : Od lt) (x : α) : ∀ {xs : List α}, xs.Pairwise (fun a b => lt b a = false) → (ins lt x xs).Pairwise (fun a b => lt b a = false)
  | [], _ => by
    unfold ins
    exact List.pairwise_singleton _ _
  | y :: r, hs => by
    rw [List.pairwise_cons] at hs
    unfold ins
    split
    · rename_i hy
      rw [List.pairwise_cons]
      refine ⟨fun z hz => ?_, ins_sorted h x hs.2⟩
      rcases List.mem_cons.mp ((ins_perm x r).mem_iff.mp hz) with rfl | hz
      · cases e : lt z y with
        | false => rfl
        | true =>
          have := h.tr _ _ _ e hy
          rw [h.irr] at this; cases this
      · exact hs.1 z hz
    · rename_i hy
      have hy : lt y x = false := by simpa using hy
      rw [List.pairwise_cons, List.pairwise_cons]
      refine ⟨fun z hz => ?_, hs⟩
      rcases List.mem_cons.mp hz with rfl | hz
      · exact hy
      · exact h.le_tr hy (hs.1 z hz)
theorem isort_sorted (h : Od lt) : ∀ xs : List α, (isort lt xs).Pairwise (fun a b => lt b a = false)
  | [] => List.Pairwise.nil
  | x :: r => ins_sorted h x (isort_sorted h r)
theorem srt_isort {f : α → D} (he : ∀ a b, PySem.W.dataLt (f a) (f b) = lt a b) (h : Od lt) (xs : List α) : srt f xs = isort lt xs := by
  have e : srt f xs = xs.mergeSort fun a b => !lt b a := by
    unfold srt
    congr 1
    funext a b
    rw [he]
  rw [e]
  have hp : ((xs.mergeSort fun a b => !lt b a)).Pairwise (fun a b => lt b a = false) := by
    refine (List.pairwise_mergeSort (fun a b c p q => ?_) (fun a b => ?_) xs).imp fun {a b} z => by simpa using z
    · simp only [Bool.not_eq_true'] at *
      exact h.le_tr p q
    · cases e1 : lt b a with
      | false => rfl
      | true =>
        cases e2 : lt a b with
        | false => rfl
        | true =>
          have := h.tr _ _ _ e1 e2
          rw [h.irr] at this; cases this
  exact List.Perm.eq_of_pairwise (fun a b _ _ p q => h.tri _ _ q p) hp (isort_sorted h xs) ((List.mergeSort_perm xs _).trans (isort_perm xs).symm)
theorem sorted_eq (h : Od lt) {xs ys : List α} (hp : xs.Perm ys) (h1 : xs.Pairwise (fun a b => lt b a = false)) (h2 : ys.Pairwise (fun a b => lt b a = false)) : xs = ys :=
  List.Perm.eq_of_pairwise (fun a b _ _ p q => h.tri _ _ q p) h1 h2 hp
theorem dl_I (a b : Int) : PySem.W.dataLt (dI a) (dI b) = lessI a b := PySem.W.dataLt_int a b
theorem dl_end : PyProof.Rows.lexLt PyProof.Rows.itemOrd (PySem.W.keyToksAll []) (PySem.W.keyToksAll []) = false := PyProof.Rows.lex_irrefl _
variable [DecidableEq α] [DecidableEq β] [DecidableEq γ] [DecidableEq δ] {k1 k2 k3 k4 : Nat} {f : α → D} {g : β → D} {i : γ → D} {j : δ → D} {l1 : α → α → Bool} {l2 : β → β → Bool} {l3 : γ → γ → Bool} {l4 : δ → δ → Bool}
theorem lx_end (S : So f) (L : Lw k1 f) (O : Od l1) (h : ∀ a b, PySem.W.dataLt (f a) (f b) = l1 a b) (a b : α) : PyProof.Rows.lexLt PyProof.Rows.itemOrd (PySem.W.keyToksAll [f a]) (PySem.W.keyToksAll [f b]) = l1 a b := by
  rw [PySem.W.dataLt_cons (S.alike a b), L.eqv, dl_end, h]
  by_cases e : a = b
  · subst e
    rw [if_pos (decide_eq_true rfl), O.irr]
  · rw [if_neg (by simpa using e)]
theorem lx_cons (S : So f) (L : Lw k1 f) (h : ∀ a b, PySem.W.dataLt (f a) (f b) = l1 a b) (a b : α) (xs ys : List D) : PyProof.Rows.lexLt PyProof.Rows.itemOrd (PySem.W.keyToksAll (f a :: xs)) (PySem.W.keyToksAll (f b :: ys)) = if a = b then PyProof.Rows.lexLt PyProof.Rows.itemOrd (PySem.W.keyToksAll xs) (PySem.W.keyToksAll ys) else l1 a b := by
  rw [PySem.W.dataLt_cons (S.alike a b), L.eqv, h]
  by_cases e : a = b
  · rw [if_pos (decide_eq_true e), if_pos e]
  · rw [if_neg (by simpa using e), if_neg e]
theorem dl_2 (S1 : So f) (L1 : Lw k1 f) (h1 : ∀ a b, PySem.W.dataLt (f a) (f b) = l1 a b) (S2 : So g) (L2 : Lw k2 g) (O2 : Od l2) (h2 : ∀ a b, PySem.W.dataLt (g a) (g b) = l2 a b) (a b : α × β) : PySem.W.dataLt (d2 f g a) (d2 f g b) = lt2 l1 l2 a b := by
  show PySem.W.dataLt (.tuple [f a.1, g a.2]) (.tuple [f b.1, g b.2]) = _
  rw [PySem.W.dataLt_tuple, lx_cons S1 L1 h1, lx_end S2 L2 O2 h2]
  rfl
theorem dl_3 (S1 : So f) (L1 : Lw k1 f) (h1 : ∀ a b, PySem.W.dataLt (f a) (f b) = l1 a b) (S2 : So g) (L2 : Lw k2 g) (h2 : ∀ a b, PySem.W.dataLt (g a) (g b) = l2 a b) (S3 : So i) (L3 : Lw k3 i) (O3 : Od l3) (h3 : ∀ a b, PySem.W.dataLt (i a) (i b) = l3 a b) (a b : α × β × γ) : PySem.W.dataLt (d3 f g i a) (d3 f g i b) = lt2 l1 (lt2 l2 l3) a b := by
  show PySem.W.dataLt (.tuple [f a.1, g a.2.1, i a.2.2]) (.tuple [f b.1, g b.2.1, i b.2.2]) = _
  rw [PySem.W.dataLt_tuple, lx_cons S1 L1 h1, lx_cons S2 L2 h2, lx_end S3 L3 O3 h3]
  rfl
end
theorem srt_I (xs : List Int) : srt dI xs = isort lessI xs := srt_isort dl_I od_I xs
theorem srt_II (xs : List (Int × Int)) : srt (d2 dI dI) xs = isort (lt2 lessI lessI) xs := srt_isort (dl_2 so_I lw_int dl_I so_I lw_int od_I dl_I) (od_2 od_I od_I) xs
theorem srt_III (xs : List (Int × Int × Int)) : srt (d3 dI dI dI) xs = isort (lt2 lessI (lt2 lessI lessI)) xs := srt_isort (dl_3 so_I lw_int dl_I so_I lw_int dl_I so_I lw_int od_I dl_I) (od_2 od_I (od_2 od_I od_I)) xs
end VS
set_option Elab.async false
set_option linter.all false
set_option maxRecDepth 100000
namespace K51
open PySem L2 VS
def top (i : Nat) : Stmt := PySem.Challenge.pw_ringlands_k51_fractions_read_backwards.main.body.getD i (.Pass ⟨0, 0, 0, 0⟩)
def c_NOTHING : (Int × Int × Int × Int) := (1, 0, 0, 1)
structure Zs (mg : Str → Option Value) : Prop where
  abs_ : mg "abs" = none
  bool_ : mg "bool" = none
  int_ : mg "int" = none
  isinstance_ : mg "isinstance" = none
  len_ : mg "len" = none
  list_ : mg "list" = none
  range_ : mg "range" = none
  tuple_ : mg "tuple" = none
structure Cs (K : PySem.W.Frag) (mg : Str → Option Value) : Prop where
  NOTHING_ : Ct K mg "NOTHING" ((d4 dI dI dI dI) c_NOTHING)
section
variable {P : Program} {w : World} {K : PySem.W.Frag} {mg : Str → Option Value} {base : Heap}
set_option maxHeartbeats 1500000

abbrev s_l_draw : Stmt := top 13
def N_l_draw : List Str := ["feed", "many", "cell", "told", "mixed"]
theorem sc_l_draw : FnScope N_l_draw ["feed", "many"] (defScope s_l_draw) := ⟨rfl, rfl, rfl, by decide +kernel, rfl, by decide +kernel, by decide +kernel⟩
theorem n_l_draw_0 : Nm N_l_draw (defScope s_l_draw) 0 "feed" := ⟨rfl, .inl rfl, by decide, by decide⟩
theorem n_l_draw_1 : Nm N_l_draw (defScope s_l_draw) 1 "many" := ⟨rfl, .inl rfl, by decide, by decide⟩
theorem n_l_draw_2 : Nm N_l_draw (defScope s_l_draw) 2 "cell" := ⟨rfl, .inl rfl, by decide, by decide⟩
theorem n_l_draw_3 : Nm N_l_draw (defScope s_l_draw) 3 "told" := ⟨rfl, .inl rfl, by decide, by decide⟩
theorem n_l_draw_4 : Nm N_l_draw (defScope s_l_draw) 4 "mixed" := ⟨rfl, .inl rfl, by decide, by decide⟩
def m_l_draw (fd : Fd) (a : Int) : Option (Int × Fd) := draw fd a
abbrev T_l_draw (P : Program) (w : World) (K : PySem.W.Frag) (mg : Str → Option Value) (base : Heap) : Prop := Gf P w K mg base 1 "_law_draw" ["feed", "many"] (spF K 2 (fun s : Int => [dI s]) m_l_draw dI)
theorem ok_l_draw (zs : Zs mg) (cs : Cs K mg) (d : Df K mg "_law_draw" s_l_draw ["feed", "many"]) : T_l_draw P w K mg base := by
  refine gf_f d sc_l_draw rfl (by decide) (fun _ => rfl) fun f cdv A outer s H E hr p fd a => sr_ex ⟨_, sr_w [] [.brw p (encF fd), .val (dI a), .un, .un, .un] rfl <|
     sr_cons (E := fun fd => [.brw p (encF fd), .val (dI a), .un, .un, .un])
       (n1_if (PWe.pt (pw_a (pt_cmp' (ov_eq lw_int (hr.units)) (pv_fbig n_l_draw_0 rfl) pv_int (nomark _)) (pw_a1 (pt_cmp' ov_lt (pv_fat n_l_draw_0 rfl) (pv_callB (cv_len (f1 := aD (dL dI)) (f := dI)) rfl zs.len_ b_len (par_one (pv_fcells n_l_draw_0 rfl))) (nomark _)))))
         (sn_cons (n1_set n_l_draw_2 (pv_callB cv_abs rfl zs.abs_ b_abs (par_one (pv_callTy cv_int rfl zs.int_ b_int (par_one (pv_ix (f1 := aD (dL dI)) (f := dI) (pv_fcells n_l_draw_0 rfl) (pv_fat n_l_draw_0 rfl) (fun _ _ => rfl)))))) sc_l_draw.nd (.inl rfl)) fun cell =>
          sn_w [] [.brw p (encF fd), .val (dI a), .val (dI cell), .un, .un] rfl <|
          sn_cons (n1_faug (fun z => ⟨fd.cells, z, fd.big, fd.seed⟩) n_l_draw_0 ip_add pv_int rfl (j := 1) rfl rfl (fun _ => rfl)) fun at_ =>
          sn_w [] [.brw p (encF ⟨fd.cells, at_, fd.big, fd.seed⟩), .val (dI a), .val (dI cell), .un, .un] rfl <|
          sn_cons (E := fun fd => [.brw p (encF fd), .val (dI a), .un, .un, .un]) (n1_if (pt_cmp' ov_ge (nv n_l_draw_2 rfl) (pv_op ov_pow pv_int pv_int) (nomark _))
            (sn_cons (n1_fput (fun z => ⟨fd.cells, at_, z, fd.seed⟩) n_l_draw_0 (nv n_l_draw_2 rfl) rfl (j := 2) rfl (fun _ => rfl)) fun z => sn_w [2] [.brw p (encF ⟨fd.cells, at_, z, fd.seed⟩), .val (dI a), .un, .un, .un] rfl <| sn_nil rfl)
            (sn_cons (n1_fput (fun z => ⟨fd.cells, at_, fd.big, z⟩) n_l_draw_0 (pv_op ov_mod (pv_callTy cv_int rfl zs.int_ b_int (par_one (pv_op ov_add (pv_op ov_add (pv_op ov_mul (pv_fseed n_l_draw_0 rfl) pv_int) (pv_op ov_mul (nv n_l_draw_2 rfl) pv_int)) (pv_fat n_l_draw_0 rfl)))) pv_int) rfl (j := 3) rfl (fun _ => rfl)) fun z => sn_w [2] [.brw p (encF ⟨fd.cells, at_, fd.big, z⟩), .val (dI a), .un, .un, .un] rfl <| sn_nil rfl)) fun s => sn_nil rfl)
         (sn_nil rfl)) fun fd =>
     sr_ifret (pt_cmp' ov_gt (pv_fbig n_l_draw_0 rfl) pv_int (nomark _))
       (sr_cons (n1_set n_l_draw_3 (pv_op ov_mod (pv_callTy cv_int rfl zs.int_ b_int (par_one (pv_fbig n_l_draw_0 rfl))) (nv n_l_draw_1 rfl)) sc_l_draw.nd (.inl rfl)) fun told =>
        sr_w [] [.brw p (encF fd), .val (dI a), .un, .val (dI told), .un] rfl <|
        sr_cons (n1_fput (fun z => ⟨fd.cells, fd.at_, z, fd.seed⟩) n_l_draw_0 (pv_op ov_div (pv_fbig n_l_draw_0 rfl) (nv n_l_draw_1 rfl)) rfl (j := 2) rfl (fun _ => rfl)) fun z =>
        sr_w [] [.brw p (encF ⟨fd.cells, fd.at_, z, fd.seed⟩), .val (dI a), .un, .val (dI told), .un] rfl <|
        sr_retF (i := 0) (nv n_l_draw_3 (f := dI) rfl) rfl)
       (sr_cons (n1_fput (fun z => ⟨fd.cells, fd.at_, fd.big, z⟩) n_l_draw_0 (pv_op ov_mod (pv_callTy cv_int rfl zs.int_ b_int (par_one (pv_op ov_add (pv_op ov_mul (pv_fseed n_l_draw_0 rfl) pv_int) pv_int))) pv_int) rfl (j := 3) rfl (fun _ => rfl)) fun z =>
        sr_w [] [.brw p (encF ⟨fd.cells, fd.at_, fd.big, z⟩), .val (dI a), .un, .un, .un] rfl <|
        sr_cons (n1_set n_l_draw_4 (pv_op ov_mod (pv_callTy cv_int rfl zs.int_ b_int (par_one (pv_op ov_add (pv_op ov_mul (pv_fseed n_l_draw_0 rfl) (pv_fseed n_l_draw_0 rfl)) (pv_fseed n_l_draw_0 rfl)))) pv_int) sc_l_draw.nd (.inl rfl)) fun mixed =>
        sr_w [] [.brw p (encF ⟨fd.cells, fd.at_, fd.big, z⟩), .val (dI a), .un, .un, .val (dI mixed)] rfl <|
        sr_retF (i := 0) (pv_op ov_mod (pv_op ov_div (nv n_l_draw_4 rfl) pv_int) (nv n_l_draw_1 rfl)) rfl), by rfl⟩

abbrev s_l_feed : Stmt := top 12
def N_l_feed : List Str := ["script"]
theorem sc_l_feed : FnScope N_l_feed ["script"] (defScope s_l_feed) := ⟨rfl, rfl, rfl, by decide +kernel, rfl, by decide +kernel, by decide +kernel⟩
theorem n_l_feed_0 : Nm N_l_feed (defScope s_l_feed) 0 "script" := ⟨rfl, .inl rfl, by decide, by decide⟩
abbrev T_l_feed (P : Program) (w : World) (K : PySem.W.Frag) (mg : Str → Option Value) (base : Heap) : Prop := Gf P w K mg base 1 "_law_feed" ["script"] (spN K 1 (fun s : List Int => [dL dI s]) (fun s => some (feed0 s)) encF)
theorem ok_l_feed (zs : Zs mg) (cs : Cs K mg) (d : Df K mg "_law_feed" s_l_feed ["script"]) : T_l_feed P w K mg base := by
  refine gf_nr d sc_l_feed rfl (by decide) (fun _ => rfl) fun f cdv A outer s H E hr a => sr_ex ⟨_, sr_w [] [.val (dL dI a)] rfl (sr_retN (pn_map (fun p => (⟨p.1, p.2.1, p.2.2.1, p.2.2.2⟩ : Fd)) (pn_lstD (ds := fun p => [dL dI p.1, dI p.2.1, dI p.2.2.1, dI p.2.2.2]) (par_cons (pv_list (pn_callTy (cn_list (f1 := aD (dL dI))) rfl zs.list_ b_list (par_one (nv n_l_feed_0 (f := dL dI) rfl)))) (par_cons pv_int (par_cons pv_int (par_one pv_int)))) (fun _ => rfl) (fun _ => by show 4 ≤ 1000; decide)) (fun _ => rfl))), by rfl⟩

abbrev s_l_divisor : Stmt := top 17
def N_l_divisor : List Str := ["a", "b", "turn", "rest"]
theorem sc_l_divisor : FnScope N_l_divisor ["a", "b"] (defScope s_l_divisor) := ⟨rfl, rfl, rfl, by decide +kernel, rfl, by decide +kernel, by decide +kernel⟩
theorem n_l_divisor_0 : Nm N_l_divisor (defScope s_l_divisor) 0 "a" := ⟨rfl, by first | exact .inl rfl | exact .inr (.inl rfl), by decide, by decide⟩
theorem lo_l_divisor_0 : Loc (defScope s_l_divisor) "a" := by first | exact .inl rfl | exact .inr rfl
theorem n_l_divisor_1 : Nm N_l_divisor (defScope s_l_divisor) 1 "b" := ⟨rfl, by first | exact .inl rfl | exact .inr (.inl rfl), by decide, by decide⟩
theorem lo_l_divisor_1 : Loc (defScope s_l_divisor) "b" := by first | exact .inl rfl | exact .inr rfl
theorem n_l_divisor_2 : Nm N_l_divisor (defScope s_l_divisor) 2 "turn" := ⟨rfl, by first | exact .inl rfl | exact .inr (.inl rfl), by decide, by decide⟩
theorem lo_l_divisor_2 : Loc (defScope s_l_divisor) "turn" := by first | exact .inl rfl | exact .inr rfl
theorem n_l_divisor_3 : Nm N_l_divisor (defScope s_l_divisor) 3 "rest" := ⟨rfl, by first | exact .inl rfl | exact .inr (.inl rfl), by decide, by decide⟩
theorem lo_l_divisor_3 : Loc (defScope s_l_divisor) "rest" := by first | exact .inl rfl | exact .inr rfl
def m_l_divisor (a : Int × Int) : Option Int := match a with
  | (a_, b_) => thenR ((range1 (200 : Int)).bind fun x9 => forM x9 (fun (x1 : Int) (s4 : Int × Int) => (if decide (s4.2 = (0 : Int)) then (some s4.1).bind fun r => some (.inr r) else (modI s4.1 s4.2).bind fun rest_5 => (some s4.2).bind fun a_6 => (some rest_5).bind fun b_7 => some (.inl (a_6, b_7)) : Option (Sum (Int × Int) Int))) (a_, b_)) fun s4 => some s4.1
abbrev T_l_divisor (P : Program) (w : World) (K : PySem.W.Frag) (mg : Str → Option Value) (base : Heap) : Prop := Gf P w K mg base 2 "_law_divisor" ["a", "b"] (spP K 2 (fun (a : Int × Int) => [dI a.1, dI a.2]) m_l_divisor dI)
theorem ok_l_divisor (zs : Zs mg) (cs : Cs K mg) (d : Df K mg "_law_divisor" s_l_divisor ["a", "b"])  : T_l_divisor P w K mg base :=
  gf_pr d sc_l_divisor rfl (by decide) (fun _ => rfl) (fun f cdv Ar outer s H E hr ⟨a_, b_⟩ => sr_ex ⟨_, sr_w [] [.val (dI a_), .val (dI b_), .un, .un] rfl <| sr_sv (E := fun (s4 : Int × Int) => [.val (dI s4.1), .val (dI s4.2), .un, .un]) (s1_for (fx := dI) (s0 := (a_, b_)) PassesOwn.never rfl (pit_range1 (by rfl) zs.range_ pv_int) (pg_name (i := 2) sc_l_divisor.nd rfl (by first | exact .inl rfl | exact .inr rfl)) (gv_name (i := 2)) rfl (fun x1 s4 => sv_w [] [.val (dI s4.1), .val (dI s4.2), .val (dI x1), .un] rfl <| sv_ifret (pt_cmp' (ov_eq lw_int hr.units) (nv n_l_divisor_1 (f := dI) (z := s4.2) rfl) pv_int (nomark _)) (sr_ret (nv n_l_divisor_0 (f := dI) (z := s4.1) rfl)) <| sv_c (n1_set n_l_divisor_3 (f := dI) (pv_op ov_mod (pv_callTy cv_int (by rfl) zs.int_ b_int (par_one (nv n_l_divisor_0 (f := dI) (z := s4.1) rfl))) (nv n_l_divisor_1 (f := dI) (z := s4.2) rfl)) sc_l_divisor.nd lo_l_divisor_3) fun rest_5 => sv_w [] [.val (dI s4.1), .val (dI s4.2), .val (dI x1), .val (dI rest_5)] rfl <| sv_c (n1_set n_l_divisor_0 (f := dI) (nv n_l_divisor_1 (f := dI) (z := s4.2) rfl) sc_l_divisor.nd lo_l_divisor_0) fun a_6 => sv_w [] [.val (dI a_6), .val (dI s4.2), .val (dI x1), .val (dI rest_5)] rfl <| sv_c (n1_set n_l_divisor_1 (f := dI) (nv n_l_divisor_3 (f := dI) (z := rest_5) rfl) sc_l_divisor.nd lo_l_divisor_1) fun b_7 => sv_w [] [.val (dI a_6), .val (dI b_7), .val (dI x1), .val (dI rest_5)] rfl <| sv_n (sn_w [2, 3] [.val (dI a_6), .val (dI b_7), .un, .un] rfl <| sn_nil (s := (a_6, b_7)) rfl)) (fun _ => rfl)) fun s4 => sr_w [] [.val (dI s4.1), .val (dI s4.2), .un, .un] rfl <| sr_ret (nv n_l_divisor_0 (f := dI) (z := s4.1) rfl), by rfl⟩)
abbrev s_l_fraction : Stmt := top 21
def N_l_fraction : List Str := ["feed", "most", "whole", "part", "common"]
theorem sc_l_fraction : FnScope N_l_fraction ["feed", "most"] (defScope s_l_fraction) := ⟨rfl, rfl, rfl, by decide +kernel, rfl, by decide +kernel, by decide +kernel⟩
theorem n_l_fraction_0 : Nm N_l_fraction (defScope s_l_fraction) 0 "feed" := ⟨rfl, by first | exact .inl rfl | exact .inr (.inl rfl), by decide, by decide⟩
theorem lo_l_fraction_0 : Loc (defScope s_l_fraction) "feed" := by first | exact .inl rfl | exact .inr rfl
theorem n_l_fraction_1 : Nm N_l_fraction (defScope s_l_fraction) 1 "most" := ⟨rfl, by first | exact .inl rfl | exact .inr (.inl rfl), by decide, by decide⟩
theorem lo_l_fraction_1 : Loc (defScope s_l_fraction) "most" := by first | exact .inl rfl | exact .inr rfl
theorem n_l_fraction_2 : Nm N_l_fraction (defScope s_l_fraction) 2 "whole" := ⟨rfl, by first | exact .inl rfl | exact .inr (.inl rfl), by decide, by decide⟩
theorem lo_l_fraction_2 : Loc (defScope s_l_fraction) "whole" := by first | exact .inl rfl | exact .inr rfl
theorem n_l_fraction_3 : Nm N_l_fraction (defScope s_l_fraction) 3 "part" := ⟨rfl, by first | exact .inl rfl | exact .inr (.inl rfl), by decide, by decide⟩
theorem lo_l_fraction_3 : Loc (defScope s_l_fraction) "part" := by first | exact .inl rfl | exact .inr rfl
theorem n_l_fraction_4 : Nm N_l_fraction (defScope s_l_fraction) 4 "common" := ⟨rfl, by first | exact .inl rfl | exact .inr (.inl rfl), by decide, by decide⟩
theorem lo_l_fraction_4 : Loc (defScope s_l_fraction) "common" := by first | exact .inl rfl | exact .inr rfl
def m_l_fraction (fd : Fd) (a : Int) : Option ((Int × Int) × Fd) := match a with
  | most_ => ((m_l_draw fd (most_ - (1 : Int))).bind fun r5 => some (((1 : Int) + r5.1), r5.2)).bind fun whole_1 => ((m_l_draw whole_1.2 (most_ - whole_1.1)).bind fun r10 => some (((whole_1.1 + (1 : Int)) + r10.1), r10.2)).bind fun part_6 => (m_l_divisor (part_6.1, whole_1.1)).bind fun common_11 => ((divI part_6.1 common_11).bind fun x12 => (divI whole_1.1 common_11).bind fun x13 => some (x12, x13)).bind fun x14 => some (x14, part_6.2)
abbrev T_l_fraction (P : Program) (w : World) (K : PySem.W.Frag) (mg : Str → Option Value) (base : Heap) : Prop := Gf P w K mg base 3 "_law_fraction" ["feed", "most"] (spF K 2 (fun (a : Int) => [dI a]) m_l_fraction (d2 dI dI))
theorem ok_l_fraction (zs : Zs mg) (cs : Cs K mg) (d : Df K mg "_law_fraction" s_l_fraction ["feed", "most"]) (g_l_divisor : T_l_divisor P w K mg base) (g_l_draw : T_l_draw P w K mg base) : T_l_fraction P w K mg base :=
  gf_f d sc_l_fraction rfl (by decide) (fun _ => rfl) (fun f cdv Ar outer s H E hr p fd most_ => sr_ex ⟨_, sr_w [] [.brw p (encF fd), .val (dI most_), .un, .un, .un] rfl <| sr_cons (n1_setE n_l_fraction_2 (E := fun (fd2 : Fd) => [.brw p (encF fd2), .val (dI most_), .un, .un, .un]) (f := dI) (ev_op ov_add (ev_pv (fd0 := fd) pv_int rfl) fun s4 => (ev_cgF g_l_draw hr (by decide) (by rfl) (feed_brw (i := 0) (a := p) fun _ => ⟨rfl, fun _ => rfl⟩) (fd0 := s4) rfl n_l_fraction_0 (ear_one (ev_pv (fd0 := s4) (pv_op ov_sub (nv n_l_fraction_1 (f := dI) (z := most_) rfl) pv_int) rfl)) (fun _ => rfl) (fun _ => rfl))) sc_l_fraction.nd lo_l_fraction_2) fun whole_1 => sr_w [] [.brw p (encF whole_1.2), .val (dI most_), .val (dI whole_1.1), .un, .un] rfl <| sr_cons (n1_setE n_l_fraction_3 (E := fun (fd7 : Fd) => [.brw p (encF fd7), .val (dI most_), .val (dI whole_1.1), .un, .un]) (f := dI) (ev_op ov_add (ev_pv (fd0 := whole_1.2) (pv_op ov_add (nv n_l_fraction_2 (f := dI) (z := whole_1.1) rfl) pv_int) rfl) fun s9 => (ev_cgF g_l_draw hr (by decide) (by rfl) (feed_brw (i := 0) (a := p) fun _ => ⟨rfl, fun _ => rfl⟩) (fd0 := s9) rfl n_l_fraction_0 (ear_one (ev_pv (fd0 := s9) (pv_op ov_sub (nv n_l_fraction_1 (f := dI) (z := most_) rfl) (nv n_l_fraction_2 (f := dI) (z := whole_1.1) rfl)) rfl)) (fun _ => rfl) (fun _ => rfl))) sc_l_fraction.nd lo_l_fraction_3) fun part_6 => sr_w [] [.brw p (encF part_6.2), .val (dI most_), .val (dI whole_1.1), .val (dI part_6.1), .un] rfl <| sr_cons (n1_set n_l_fraction_4 (f := dI) (pv_cg g_l_divisor hr (by decide) (by rfl) (par_cons (nv n_l_fraction_3 (f := dI) (z := part_6.1) rfl) (par_one (nv n_l_fraction_2 (f := dI) (z := whole_1.1) rfl))) (fun _ => rfl) (fun _ => rfl)) sc_l_fraction.nd lo_l_fraction_4) fun common_11 => sr_w [] [.brw p (encF part_6.2), .val (dI most_), .val (dI whole_1.1), .val (dI part_6.1), .val (dI common_11)] rfl <| sr_retF (i := 0) (pv_tup2 (pv_op ov_div (nv n_l_fraction_3 (f := dI) (z := part_6.1) rfl) (nv n_l_fraction_4 (f := dI) (z := common_11) rfl)) (pv_op ov_div (nv n_l_fraction_2 (f := dI) (z := whole_1.1) rfl) (nv n_l_fraction_4 (f := dI) (z := common_11) rfl))) rfl, by rfl⟩)
abbrev s_l_minus_drawn : Stmt := top 20
def N_l_minus_drawn : List Str := ["feed", "many", "kind", "most", "k"]
theorem sc_l_minus_drawn : FnScope N_l_minus_drawn ["feed"] (defScope s_l_minus_drawn) := ⟨rfl, rfl, rfl, by decide +kernel, rfl, by decide +kernel, by decide +kernel⟩
theorem n_l_minus_drawn_0 : Nm N_l_minus_drawn (defScope s_l_minus_drawn) 0 "feed" := ⟨rfl, by first | exact .inl rfl | exact .inr (.inl rfl), by decide, by decide⟩
theorem lo_l_minus_drawn_0 : Loc (defScope s_l_minus_drawn) "feed" := by first | exact .inl rfl | exact .inr rfl
theorem n_l_minus_drawn_1 : Nm N_l_minus_drawn (defScope s_l_minus_drawn) 1 "many" := ⟨rfl, by first | exact .inl rfl | exact .inr (.inl rfl), by decide, by decide⟩
theorem lo_l_minus_drawn_1 : Loc (defScope s_l_minus_drawn) "many" := by first | exact .inl rfl | exact .inr rfl
theorem n_l_minus_drawn_2 : Nm N_l_minus_drawn (defScope s_l_minus_drawn) 2 "kind" := ⟨rfl, by first | exact .inl rfl | exact .inr (.inl rfl), by decide, by decide⟩
theorem lo_l_minus_drawn_2 : Loc (defScope s_l_minus_drawn) "kind" := by first | exact .inl rfl | exact .inr rfl
theorem n_l_minus_drawn_3 : Nm N_l_minus_drawn (defScope s_l_minus_drawn) 3 "most" := ⟨rfl, by first | exact .inl rfl | exact .inr (.inl rfl), by decide, by decide⟩
theorem lo_l_minus_drawn_3 : Loc (defScope s_l_minus_drawn) "most" := by first | exact .inl rfl | exact .inr rfl
def m_l_minus_drawn (fd : Fd) (a : Unit) : Option ((List Int) × Fd) := match a with
  | _ => ((m_l_draw fd (5 : Int)).bind fun r5 => some (((1 : Int) + r5.1), r5.2)).bind fun many_1 => (((m_l_draw many_1.2 (6 : Int)).bind fun r11 => some (decide (r11.1 = (0 : Int)), r11.2)).bind fun k10 => let fd6 := k10.2; if k10.1 then (some (12 : Int)).bind fun many_9 => some (fd6, many_9) else some (fd6, many_1.1) : Option (Fd × Int)).bind fun s7 => (m_l_draw s7.1 (4 : Int)).bind fun kind_12 => (atI ((1 : Int) :: ((3 : Int) :: ((8 : Int) :: ((98 : Int) :: []))) : List Int) kind_12.1).bind fun most_14 => (range1 s7.2).bind fun x19 => compE x19 yesE (fun y16 q17 => (m_l_draw q17 most_14).bind fun r20 => some (((2 : Int) + r20.1), r20.2)) kind_12.2
abbrev T_l_minus_drawn (P : Program) (w : World) (K : PySem.W.Frag) (mg : Str → Option Value) (base : Heap) : Prop := Gf P w K mg base 2 "_law_minus_drawn" ["feed"] (spFN K 1 (fun (a : Unit) => []) m_l_minus_drawn (fun z : List Int => z.map dI))
theorem ok_l_minus_drawn (zs : Zs mg) (cs : Cs K mg) (d : Df K mg "_law_minus_drawn" s_l_minus_drawn ["feed"]) (g_l_draw : T_l_draw P w K mg base) : T_l_minus_drawn P w K mg base :=
  gf_fn d sc_l_minus_drawn rfl (by decide) (fun _ => rfl) (fun f cdv Ar outer s H E hr p fd _ => sr_ex ⟨_, sr_w [] [.brw p (encF fd), .un, .un, .un, .un] rfl <| sr_cons (n1_setE n_l_minus_drawn_1 (E := fun (fd2 : Fd) => [.brw p (encF fd2), .un, .un, .un, .un]) (f := dI) (ev_op ov_add (ev_pv (fd0 := fd) pv_int rfl) fun s4 => (ev_cgF g_l_draw hr (by decide) (by rfl) (feed_brw (i := 0) (a := p) fun _ => ⟨rfl, fun _ => rfl⟩) (fd0 := s4) rfl n_l_minus_drawn_0 (ear_one (ev_pv (fd0 := s4) pv_int rfl)) (fun _ => rfl) (fun _ => rfl))) sc_l_minus_drawn.nd lo_l_minus_drawn_1) fun many_1 => sr_w [] [.brw p (encF many_1.2), .val (dI many_1.1), .un, .un, .un] rfl <| sr_cons (E := fun (s7 : Fd × Int) => [.brw p (encF s7.1), .val (dI s7.2), .un, .un, .un]) (n1_ifE (E := fun (fd6 : Fd) => [.brw p (encF fd6), .val (dI many_1.1), .un, .un, .un]) (E' := fun (s7 : Fd × Int) => [.brw p (encF s7.1), .val (dI s7.2), .un, .un, .un]) (et_cmp (ov_eq lw_int hr.units) (ev_cgF g_l_draw hr (by decide) (by rfl) (feed_brw (i := 0) (a := p) fun _ => ⟨rfl, fun _ => rfl⟩) (fd0 := many_1.2) rfl n_l_minus_drawn_0 (ear_one (ev_pv (fd0 := many_1.2) pv_int rfl)) (fun _ => rfl) (fun _ => rfl)) (fun s8 => (ev_pv (fd0 := s8) pv_int rfl)) (nomark _)) (fun fd6 => sn_cons (n1_set n_l_minus_drawn_1 (f := dI) pv_int sc_l_minus_drawn.nd lo_l_minus_drawn_1) fun many_9 => sn_w [] [.brw p (encF fd6), .val (dI many_9), .un, .un, .un] rfl <| sn_w [] [.brw p (encF fd6), .val (dI many_9), .un, .un, .un] rfl <| sn_nil (s := (fd6, many_9)) rfl) (fun fd6 => sn_w [] [.brw p (encF fd6), .val (dI many_1.1), .un, .un, .un] rfl <| sn_nil (s := (fd6, many_1.1)) rfl)) fun s7 => sr_w [] [.brw p (encF s7.1), .val (dI s7.2), .un, .un, .un] rfl <| sr_cons (n1_setE n_l_minus_drawn_2 (E := fun (fd13 : Fd) => [.brw p (encF fd13), .val (dI s7.2), .un, .un, .un]) (f := dI) (ev_cgF g_l_draw hr (by decide) (by rfl) (feed_brw (i := 0) (a := p) fun _ => ⟨rfl, fun _ => rfl⟩) (fd0 := s7.1) rfl n_l_minus_drawn_0 (ear_one (ev_pv (fd0 := s7.1) pv_int rfl)) (fun _ => rfl) (fun _ => rfl)) sc_l_minus_drawn.nd lo_l_minus_drawn_2) fun kind_12 => sr_w [] [.brw p (encF kind_12.2), .val (dI s7.2), .val (dI kind_12.1), .un, .un] rfl <| sr_cons (n1_set n_l_minus_drawn_3 (f := dI) (pv_ix (f1 := (aD (dL dI))) (f := dI) (pv_list (pn_dis (f := dI) (pln_cons pv_int (pln_cons pv_int (pln_cons pv_int (pln_cons pv_int pln_nil)))))) (nv n_l_minus_drawn_2 (f := dI) (z := kind_12.1) rfl) (fun _ _ => rfl)) sc_l_minus_drawn.nd lo_l_minus_drawn_3) fun most_14 => sr_w [] [.brw p (encF kind_12.2), .val (dI s7.2), .val (dI kind_12.1), .val (dI most_14), .un] rfl <| sr_retEN (E := fun (fd15 : Fd) => [.brw p (encF fd15), .val (dI s7.2), .val (dI kind_12.1), .val (dI most_14), .un]) (en_comp (fx := dI) (f := dI) (fd0 := kind_12.2) rfl sc_l_minus_drawn.nd (pit_range1 (by rfl) zs.range_ (nv n_l_minus_drawn_1 (f := dI) (z := s7.2) rfl)) rfl (blkOk_by (N := N_l_minus_drawn) (sc := defScope s_l_minus_drawn) (own := [("k", 4)]) (by decide +kernel)) (fun _ _ _ _ _ => (pg_name (i := 4) sc_l_minus_drawn.nd rfl (by first | exact .inl rfl | exact .inr rfl))) (gv_name (i := 4)) (hv := (fun _ i hi sl h => by have := hi; simp at this; rcases this with rfl <;> (cases h; exact ⟨rfl, rfl⟩))) (ht := (fun _ _ _ _ _ _ _ => ets_no rfl)) (he := fun y16 q17 _ _ _ _ _ => (ev_op ov_add (ev_pv (fd0 := q17) pv_int rfl) fun s18 => (ev_cgF g_l_draw hr (by decide) (by rfl) (feed_brw (i := 0) (a := p) fun _ => ⟨rfl, fun _ => rfl⟩) (fd0 := s18) rfl ⟨rfl, by first | exact .inl rfl | exact .inr (.inl rfl) | exact .inr (.inr rfl), by decide, by decide⟩ (ear_one (ev_pv (fd0 := s18) (nv (i := 3) ⟨rfl, by first | exact .inl rfl | exact .inr (.inl rfl) | exact .inr (.inr rfl), by decide, by decide⟩ (f := dI) (z := most_14) rfl) rfl)) (fun _ => rfl) (fun _ => rfl))))) (hl := fun _ => lentAt_one 0 rfl), by rfl⟩)
abbrev s_l_minus_worth : Stmt := top 18
def N_l_minus_worth : List Str := ["numbers", "part", "whole", "k", "number", "before"]
theorem sc_l_minus_worth : FnScope N_l_minus_worth ["numbers"] (defScope s_l_minus_worth) := ⟨rfl, rfl, rfl, by decide +kernel, rfl, by decide +kernel, by decide +kernel⟩
theorem n_l_minus_worth_0 : Nm N_l_minus_worth (defScope s_l_minus_worth) 0 "numbers" := ⟨rfl, by first | exact .inl rfl | exact .inr (.inl rfl), by decide, by decide⟩
theorem lo_l_minus_worth_0 : Loc (defScope s_l_minus_worth) "numbers" := by first | exact .inl rfl | exact .inr rfl
theorem n_l_minus_worth_1 : Nm N_l_minus_worth (defScope s_l_minus_worth) 1 "part" := ⟨rfl, by first | exact .inl rfl | exact .inr (.inl rfl), by decide, by decide⟩
theorem lo_l_minus_worth_1 : Loc (defScope s_l_minus_worth) "part" := by first | exact .inl rfl | exact .inr rfl
theorem n_l_minus_worth_2 : Nm N_l_minus_worth (defScope s_l_minus_worth) 2 "whole" := ⟨rfl, by first | exact .inl rfl | exact .inr (.inl rfl), by decide, by decide⟩
theorem lo_l_minus_worth_2 : Loc (defScope s_l_minus_worth) "whole" := by first | exact .inl rfl | exact .inr rfl
theorem n_l_minus_worth_3 : Nm N_l_minus_worth (defScope s_l_minus_worth) 3 "k" := ⟨rfl, by first | exact .inl rfl | exact .inr (.inl rfl), by decide, by decide⟩
theorem lo_l_minus_worth_3 : Loc (defScope s_l_minus_worth) "k" := by first | exact .inl rfl | exact .inr rfl
theorem n_l_minus_worth_4 : Nm N_l_minus_worth (defScope s_l_minus_worth) 4 "number" := ⟨rfl, by first | exact .inl rfl | exact .inr (.inl rfl), by decide, by decide⟩
theorem lo_l_minus_worth_4 : Loc (defScope s_l_minus_worth) "number" := by first | exact .inl rfl | exact .inr rfl
theorem n_l_minus_worth_5 : Nm N_l_minus_worth (defScope s_l_minus_worth) 5 "before" := ⟨rfl, by first | exact .inl rfl | exact .inr (.inl rfl), by decide, by decide⟩
theorem lo_l_minus_worth_5 : Loc (defScope s_l_minus_worth) "before" := by first | exact .inl rfl | exact .inr rfl
def m_l_minus_worth (a : (List Int)) : Option (Int × Int) := match a with
  | numbers_ => (atI numbers_ (-(1 : Int))).bind fun part_1 => (some (1 : Int)).bind fun whole_2 => ((range2 (1 : Int) (numbers_.length : Int)).bind fun x13 => forN x13 (fun (x3 : Int) (s6 : Int × Int) => ((atI numbers_ (((numbers_.length : Int) - (1 : Int)) - x3)).bind fun number_7 => (some s6.1).bind fun before_8 => ((mulI number_7 s6.1).bind fun x11 => some (x11 - s6.2)).bind fun part_9 => (some before_8).bind fun whole_12 => some (part_9, whole_12) : Option (Int × Int))) (part_1, whole_2)).bind fun s6 => some (s6.1, s6.2)
abbrev T_l_minus_worth (P : Program) (w : World) (K : PySem.W.Frag) (mg : Str → Option Value) (base : Heap) : Prop := Gf P w K mg base 2 "_law_minus_worth" ["numbers"] (spP K 1 (fun (a : (List Int)) => [(dL dI) a]) m_l_minus_worth (d2 dI dI))
theorem ok_l_minus_worth (zs : Zs mg) (cs : Cs K mg) (d : Df K mg "_law_minus_worth" s_l_minus_worth ["numbers"])  : T_l_minus_worth P w K mg base :=
  gf_pr d sc_l_minus_worth rfl (by decide) (fun _ => rfl) (fun f cdv Ar outer s H E hr numbers_ => sr_ex ⟨_, sr_w [] [.val ((dL dI) numbers_), .un, .un, .un, .un, .un] rfl <| sr_cons (n1_set n_l_minus_worth_1 (f := dI) (pv_ix (f1 := (aD (dL dI))) (f := dI) (nv n_l_minus_worth_0 (f := (dL dI)) (z := numbers_) rfl) (pv_neg pv_int) (fun _ _ => rfl)) sc_l_minus_worth.nd lo_l_minus_worth_1) fun part_1 => sr_w [] [.val ((dL dI) numbers_), .val (dI part_1), .un, .un, .un, .un] rfl <| sr_cons (n1_set n_l_minus_worth_2 (f := dI) pv_int sc_l_minus_worth.nd lo_l_minus_worth_2) fun whole_2 => sr_w [] [.val ((dL dI) numbers_), .val (dI part_1), .val (dI whole_2), .un, .un, .un] rfl <| sr_cons (E := fun (s6 : Int × Int) => [.val ((dL dI) numbers_), .val (dI s6.1), .val (dI s6.2), .un, .un, .un]) (n1_for (fx := dI) (s0 := (part_1, whole_2)) PassesOwn.never rfl (pit_range2 (by rfl) zs.range_ pv_int (pv_callB (cv_len (f1 := (aD (dL dI))) (f := dI)) (by rfl) zs.len_ b_len (par_one (nv n_l_minus_worth_0 (f := (dL dI)) (z := numbers_) rfl)))) (pg_name (i := 3) sc_l_minus_worth.nd rfl (by first | exact .inl rfl | exact .inr rfl)) (gv_name (i := 3)) rfl (fun x3 s6 => sn_w [] [.val ((dL dI) numbers_), .val (dI s6.1), .val (dI s6.2), .val (dI x3), .un, .un] rfl <| sn_cons (n1_set n_l_minus_worth_4 (f := dI) (pv_ix (f1 := (aD (dL dI))) (f := dI) (nv n_l_minus_worth_0 (f := (dL dI)) (z := numbers_) rfl) (pv_op ov_sub (pv_op ov_sub (pv_callB (cv_len (f1 := (aD (dL dI))) (f := dI)) (by rfl) zs.len_ b_len (par_one (nv n_l_minus_worth_0 (f := (dL dI)) (z := numbers_) rfl))) pv_int) (nv n_l_minus_worth_3 (f := dI) (z := x3) rfl)) (fun _ _ => rfl)) sc_l_minus_worth.nd lo_l_minus_worth_4) fun number_7 => sn_w [] [.val ((dL dI) numbers_), .val (dI s6.1), .val (dI s6.2), .val (dI x3), .val (dI number_7), .un] rfl <| sn_cons (n1_set n_l_minus_worth_5 (f := dI) (nv n_l_minus_worth_1 (f := dI) (z := s6.1) rfl) sc_l_minus_worth.nd lo_l_minus_worth_5) fun before_8 => sn_w [] [.val ((dL dI) numbers_), .val (dI s6.1), .val (dI s6.2), .val (dI x3), .val (dI number_7), .val (dI before_8)] rfl <| sn_cons (n1_set n_l_minus_worth_1 (f := dI) (pv_op ov_sub (pv_op ov_mul (nv n_l_minus_worth_4 (f := dI) (z := number_7) rfl) (nv n_l_minus_worth_1 (f := dI) (z := s6.1) rfl)) (nv n_l_minus_worth_2 (f := dI) (z := s6.2) rfl)) sc_l_minus_worth.nd lo_l_minus_worth_1) fun part_9 => sn_w [] [.val ((dL dI) numbers_), .val (dI part_9), .val (dI s6.2), .val (dI x3), .val (dI number_7), .val (dI before_8)] rfl <| sn_cons (n1_set n_l_minus_worth_2 (f := dI) (nv n_l_minus_worth_5 (f := dI) (z := before_8) rfl) sc_l_minus_worth.nd lo_l_minus_worth_2) fun whole_12 => sn_w [] [.val ((dL dI) numbers_), .val (dI part_9), .val (dI whole_12), .val (dI x3), .val (dI number_7), .val (dI before_8)] rfl <| sn_w [3, 4, 5] [.val ((dL dI) numbers_), .val (dI part_9), .val (dI whole_12), .un, .un, .un] rfl <| sn_nil (s := (part_9, whole_12)) rfl)) fun s6 => sr_w [] [.val ((dL dI) numbers_), .val (dI s6.1), .val (dI s6.2), .un, .un, .un] rfl <| sr_ret (pv_tup2 (nv n_l_minus_worth_1 (f := dI) (z := s6.1) rfl) (nv n_l_minus_worth_2 (f := dI) (z := s6.2) rfl)), by rfl⟩)
abbrev s_l_whole : Stmt := top 14
def N_l_whole : List Str := ["value"]
theorem sc_l_whole : FnScope N_l_whole ["value"] (defScope s_l_whole) := ⟨rfl, rfl, rfl, by decide +kernel, rfl, by decide +kernel, by decide +kernel⟩
theorem n_l_whole_0 : Nm N_l_whole (defScope s_l_whole) 0 "value" := ⟨rfl, by first | exact .inl rfl | exact .inr (.inl rfl), by decide, by decide⟩
theorem lo_l_whole_0 : Loc (defScope s_l_whole) "value" := by first | exact .inl rfl | exact .inr rfl
def m_l_whole (a : Int) : Option Bool := match a with
  | value_ => VS.andM (isiD "int" ((aD dI) value_).dat) ((isiD "bool" ((aD dI) value_).dat).bind fun x1 => some (!x1))
abbrev T_l_whole (P : Program) (w : World) (K : PySem.W.Frag) (mg : Str → Option Value) (base : Heap) : Prop := Gf P w K mg base 2 "_law_whole" ["value"] (spP K 1 (fun (a : Int) => [dI a]) m_l_whole dB)
theorem ok_l_whole (zs : Zs mg) (cs : Cs K mg) (d : Df K mg "_law_whole" s_l_whole ["value"])  : T_l_whole P w K mg base :=
  gf_pr d sc_l_whole rfl (by decide) (fun _ => rfl) (fun f cdv Ar outer s H E hr value_ => sr_ex ⟨_, sr_w [] [.val (dI value_)] rfl <| sr_ret (pv_and (pv_isi (f := (aD dI)) (.inl rfl) (nv n_l_whole_0 (f := dI) (z := value_) rfl) rfl zs.isinstance_ (by rfl) zs.int_ b_int) (pv_one (pv_not (pv_isi (f := (aD dI)) (.inr (.inl rfl)) (nv n_l_whole_0 (f := dI) (z := value_) rfl) rfl zs.isinstance_ (by rfl) zs.bool_ b_bool)))), by rfl⟩)
abbrev s_l_pair : Stmt := top 15
def N_l_pair : List Str := ["told", "due"]
theorem sc_l_pair : FnScope N_l_pair ["told", "due"] (defScope s_l_pair) := ⟨rfl, rfl, rfl, by decide +kernel, rfl, by decide +kernel, by decide +kernel⟩
theorem n_l_pair_0 : Nm N_l_pair (defScope s_l_pair) 0 "told" := ⟨rfl, by first | exact .inl rfl | exact .inr (.inl rfl), by decide, by decide⟩
theorem lo_l_pair_0 : Loc (defScope s_l_pair) "told" := by first | exact .inl rfl | exact .inr rfl
theorem n_l_pair_1 : Nm N_l_pair (defScope s_l_pair) 1 "due" := ⟨rfl, by first | exact .inl rfl | exact .inr (.inl rfl), by decide, by decide⟩
theorem lo_l_pair_1 : Loc (defScope s_l_pair) "due" := by first | exact .inl rfl | exact .inr rfl
def m_l_pair (a : (Int × Int) × (Int × Int)) : Option Bool := match a with
  | (told_, due_) => (VS.orM ((isiD "tuple" ((aD (d2 dI dI)) told_).dat).bind fun x1 => some (!x1)) (VS.orM (some (!decide (([told_.1, told_.2].length : Int) = (2 : Int)))) (VS.orM ((m_l_whole told_.1).bind fun x2 => some (!x2)) ((m_l_whole told_.2).bind fun x3 => some (!x3))))).bind fun k4 => if k4 then some false else some (decide (told_ = due_))
abbrev T_l_pair (P : Program) (w : World) (K : PySem.W.Frag) (mg : Str → Option Value) (base : Heap) : Prop := Gf P w K mg base 3 "_law_pair" ["told", "due"] (spP K 2 (fun (a : (Int × Int) × (Int × Int)) => [(d2 dI dI) a.1, (d2 dI dI) a.2]) m_l_pair dB)
theorem ok_l_pair (zs : Zs mg) (cs : Cs K mg) (d : Df K mg "_law_pair" s_l_pair ["told", "due"]) (g_l_whole : T_l_whole P w K mg base) : T_l_pair P w K mg base :=
  gf_pr d sc_l_pair rfl (by decide) (fun _ => rfl) (fun f cdv Ar outer s H E hr ⟨told_, due_⟩ => sr_ex ⟨_, sr_w [] [.val ((d2 dI dI) told_), .val ((d2 dI dI) due_)] rfl <| sr_ifret (PWe.pt (pw_o (pt_not' (pt_v (pv_isi (f := (aD (d2 dI dI))) (.inr (.inr (.inr (.inr rfl)))) (nv n_l_pair_0 (f := (d2 dI dI)) (z := told_) rfl) rfl zs.isinstance_ (by rfl) zs.tuple_ b_tuple))) (pw_o (pt_cmp' (ov_ne lw_int hr.units) (pv_callB (cv_len (f1 := aD (dT dI)) (f := dI)) (by rfl) zs.len_ b_len (par_one (pv_asV (f := dI) (fun (q : (Int × Int)) => [q.1, q.2]) (nv n_l_pair_0 (f := (d2 dI dI)) (z := told_) rfl) (fun _ => rfl)))) pv_int (nomark _)) (pw_o (pt_not' (pt_v (pv_cg g_l_whole hr (by decide) (by rfl) (par_one (pv_20 (nv n_l_pair_0 (f := (d2 dI dI)) (z := told_) rfl))) (fun _ => rfl) (fun _ => rfl)))) (pw_o1 (pt_not' (pt_v (pv_cg g_l_whole hr (by decide) (by rfl) (par_one (pv_21 (nv n_l_pair_0 (f := (d2 dI dI)) (z := told_) rfl))) (fun _ => rfl) (fun _ => rfl))))))))) (sr_ret pv_bool) <| sr_ret (pv_cmp (ov_eq (lw_2 lw_int lw_int) hr.units) (nv n_l_pair_0 (f := (d2 dI dI)) (z := told_) rfl) (nv n_l_pair_1 (f := (d2 dI dI)) (z := due_) rfl) (nomark _)), by rfl⟩)
abbrev s_l_list : Stmt := top 16
def N_l_list : List Str := ["told", "due", "at"]
theorem sc_l_list : FnScope N_l_list ["told", "due"] (defScope s_l_list) := ⟨rfl, rfl, rfl, by decide +kernel, rfl, by decide +kernel, by decide +kernel⟩
theorem n_l_list_0 : Nm N_l_list (defScope s_l_list) 0 "told" := ⟨rfl, by first | exact .inl rfl | exact .inr (.inl rfl), by decide, by decide⟩
theorem lo_l_list_0 : Loc (defScope s_l_list) "told" := by first | exact .inl rfl | exact .inr rfl
theorem n_l_list_1 : Nm N_l_list (defScope s_l_list) 1 "due" := ⟨rfl, by first | exact .inl rfl | exact .inr (.inl rfl), by decide, by decide⟩
theorem lo_l_list_1 : Loc (defScope s_l_list) "due" := by first | exact .inl rfl | exact .inr rfl
theorem n_l_list_2 : Nm N_l_list (defScope s_l_list) 2 "at" := ⟨rfl, by first | exact .inl rfl | exact .inr (.inl rfl), by decide, by decide⟩
theorem lo_l_list_2 : Loc (defScope s_l_list) "at" := by first | exact .inl rfl | exact .inr rfl
def m_l_list (a : (List Int) × (List Int)) : Option Bool := match a with
  | (told_, due_) => (VS.orM ((isiD "list" ((aD (dL dI)) told_).dat).bind fun x1 => some (!x1)) (some (!decide ((told_.length : Int) = (due_.length : Int))))).bind fun k11 => if k11 then some false else thenR ((range1 (due_.length : Int)).bind fun x10 => forM x10 (fun (x2 : Int) (s4 : Unit) => ((VS.orM (((atI told_ x2).bind fun x5 => m_l_whole x5).bind fun x6 => some (!x6)) ((atI told_ x2).bind fun x7 => (atI due_ x2).bind fun x8 => some (!decide (x7 = x8)))).bind fun k9 => if k9 then (some false).bind fun r => some (.inr r) else some (.inl ()) : Option (Sum Unit Bool))) ()) fun s4 => some true
abbrev T_l_list (P : Program) (w : World) (K : PySem.W.Frag) (mg : Str → Option Value) (base : Heap) : Prop := Gf P w K mg base 3 "_law_list" ["told", "due"] (spP K 2 (fun (a : (List Int) × (List Int)) => [(dL dI) a.1, (dL dI) a.2]) m_l_list dB)
theorem ok_l_list (zs : Zs mg) (cs : Cs K mg) (d : Df K mg "_law_list" s_l_list ["told", "due"]) (g_l_whole : T_l_whole P w K mg base) : T_l_list P w K mg base :=
  gf_pr d sc_l_list rfl (by decide) (fun _ => rfl) (fun f cdv Ar outer s H E hr ⟨told_, due_⟩ => sr_ex ⟨_, sr_w [] [.val ((dL dI) told_), .val ((dL dI) due_), .un] rfl <| sr_ifret (PWe.pt (pw_o (pt_not' (pt_v (pv_isi (f := (aD (dL dI))) (.inr (.inr (.inr (.inl rfl)))) (nv n_l_list_0 (f := (dL dI)) (z := told_) rfl) rfl zs.isinstance_ (by rfl) zs.list_ b_list))) (pw_o1 (pt_cmp' (ov_ne lw_int hr.units) (pv_callB (cv_len (f1 := (aD (dL dI))) (f := dI)) (by rfl) zs.len_ b_len (par_one (nv n_l_list_0 (f := (dL dI)) (z := told_) rfl))) (pv_callB (cv_len (f1 := (aD (dL dI))) (f := dI)) (by rfl) zs.len_ b_len (par_one (nv n_l_list_1 (f := (dL dI)) (z := due_) rfl))) (nomark _))))) (sr_ret pv_bool) <| sr_sv (E := fun (s4 : Unit) => [.val ((dL dI) told_), .val ((dL dI) due_), .un]) (s1_for (fx := dI) (s0 := ()) PassesOwn.never rfl (pit_range1 (by rfl) zs.range_ (pv_callB (cv_len (f1 := (aD (dL dI))) (f := dI)) (by rfl) zs.len_ b_len (par_one (nv n_l_list_1 (f := (dL dI)) (z := due_) rfl)))) (pg_name (i := 2) sc_l_list.nd rfl (by first | exact .inl rfl | exact .inr rfl)) (gv_name (i := 2)) rfl (fun x2 s4 => sv_w [] [.val ((dL dI) told_), .val ((dL dI) due_), .val (dI x2)] rfl <| sv_ifret (PWe.pt (pw_o (pt_not' (pt_v (pv_cg g_l_whole hr (by decide) (by rfl) (par_one (pv_ix (f1 := (aD (dL dI))) (f := dI) (nv n_l_list_0 (f := (dL dI)) (z := told_) rfl) (nv n_l_list_2 (f := dI) (z := x2) rfl) (fun _ _ => rfl))) (fun _ => rfl) (fun _ => rfl)))) (pw_o1 (pt_cmp' (ov_ne lw_int hr.units) (pv_ix (f1 := (aD (dL dI))) (f := dI) (nv n_l_list_0 (f := (dL dI)) (z := told_) rfl) (nv n_l_list_2 (f := dI) (z := x2) rfl) (fun _ _ => rfl)) (pv_ix (f1 := (aD (dL dI))) (f := dI) (nv n_l_list_1 (f := (dL dI)) (z := due_) rfl) (nv n_l_list_2 (f := dI) (z := x2) rfl) (fun _ _ => rfl)) (nomark _))))) (sr_ret pv_bool) <| sv_n (sn_w [2] [.val ((dL dI) told_), .val ((dL dI) due_), .un] rfl <| sn_nil (s := ()) rfl)) (fun _ => rfl)) fun s4 => sr_w [] [.val ((dL dI) told_), .val ((dL dI) due_), .un] rfl <| sr_ret pv_bool, by rfl⟩)
abbrev s_l_minus_list : Stmt := top 19
def N_l_minus_list : List Str := ["part", "whole", "numbers", "turn", "number", "rest"]
theorem sc_l_minus_list : FnScope N_l_minus_list ["part", "whole"] (defScope s_l_minus_list) := ⟨rfl, rfl, rfl, by decide +kernel, rfl, by decide +kernel, by decide +kernel⟩
theorem n_l_minus_list_0 : Nm N_l_minus_list (defScope s_l_minus_list) 0 "part" := ⟨rfl, by first | exact .inl rfl | exact .inr (.inl rfl), by decide, by decide⟩
theorem lo_l_minus_list_0 : Loc (defScope s_l_minus_list) "part" := by first | exact .inl rfl | exact .inr rfl
theorem n_l_minus_list_1 : Nm N_l_minus_list (defScope s_l_minus_list) 1 "whole" := ⟨rfl, by first | exact .inl rfl | exact .inr (.inl rfl), by decide, by decide⟩
theorem lo_l_minus_list_1 : Loc (defScope s_l_minus_list) "whole" := by first | exact .inl rfl | exact .inr rfl
theorem n_l_minus_list_2 : Nm N_l_minus_list (defScope s_l_minus_list) 2 "numbers" := ⟨rfl, by first | exact .inl rfl | exact .inr (.inl rfl), by decide, by decide⟩
theorem lo_l_minus_list_2 : Loc (defScope s_l_minus_list) "numbers" := by first | exact .inl rfl | exact .inr rfl
theorem n_l_minus_list_3 : Nm N_l_minus_list (defScope s_l_minus_list) 3 "turn" := ⟨rfl, by first | exact .inl rfl | exact .inr (.inl rfl), by decide, by decide⟩
theorem lo_l_minus_list_3 : Loc (defScope s_l_minus_list) "turn" := by first | exact .inl rfl | exact .inr rfl
theorem n_l_minus_list_4 : Nm N_l_minus_list (defScope s_l_minus_list) 4 "number" := ⟨rfl, by first | exact .inl rfl | exact .inr (.inl rfl), by decide, by decide⟩
theorem lo_l_minus_list_4 : Loc (defScope s_l_minus_list) "number" := by first | exact .inl rfl | exact .inr rfl
theorem n_l_minus_list_5 : Nm N_l_minus_list (defScope s_l_minus_list) 5 "rest" := ⟨rfl, by first | exact .inl rfl | exact .inr (.inl rfl), by decide, by decide⟩
theorem lo_l_minus_list_5 : Loc (defScope s_l_minus_list) "rest" := by first | exact .inl rfl | exact .inr rfl
def m_l_minus_list (a : Int × Int) : Option (List Int) := match a with
  | (part_, whole_) => (some ([] : List Int)).bind fun numbers_1 => thenR ((range1 (10000 : Int)).bind fun x14 => forM x14 (fun (x2 : Int) (s5 : Int × Int × List Int) => (if decide (s5.2.1 = (0 : Int)) then (some s5.2.2).bind fun r => some (.inr r) else (divI ((s5.1 + s5.2.1) - (1 : Int)) s5.2.1).bind fun number_6 => (appT s5.2.2 number_6).bind fun numbers_7 => ((mulI number_6 s5.2.1).bind fun x10 => some (x10 - s5.1)).bind fun rest_8 => (some s5.2.1).bind fun part_11 => (some rest_8).bind fun whole_12 => some (.inl (part_11, whole_12, numbers_7)) : Option (Sum (Int × Int × List Int) (List Int)))) (part_, whole_, numbers_1)) fun s5 => some s5.2.2
abbrev T_l_minus_list (P : Program) (w : World) (K : PySem.W.Frag) (mg : Str → Option Value) (base : Heap) : Prop := Gf P w K mg base 2 "_law_minus_list" ["part", "whole"] (spN K 2 (fun (a : Int × Int) => [dI a.1, dI a.2]) m_l_minus_list (fun z : List Int => z.map dI))
theorem ok_l_minus_list (zs : Zs mg) (cs : Cs K mg) (d : Df K mg "_law_minus_list" s_l_minus_list ["part", "whole"])  : T_l_minus_list P w K mg base :=
  gf_nr d sc_l_minus_list rfl (by decide) (fun _ => rfl) (fun f cdv Ar outer s H E hr ⟨part_, whole_⟩ => sr_ex ⟨_, sr_w [] [.val (dI part_), .val (dI whole_), .un, .un, .un, .un] rfl <| sr_cons (n1_setN n_l_minus_list_2 (f := fun (z : List Int) => z.map dI) (by exact (pn_dis (f := dI) pln_nil)) (by show 2 < 6; decide) sc_l_minus_list.nd lo_l_minus_list_2) fun numbers_1 => sr_w [] [.val (dI part_), .val (dI whole_), .own (numbers_1.map dI), .un, .un, .un] rfl <| sr_sv (E := fun (s5 : Int × Int × List Int) => [.val (dI s5.1), .val (dI s5.2.1), .own (s5.2.2.map dI), .un, .un, .un]) (s1_for (fx := dI) (s0 := (part_, whole_, numbers_1)) PassesOwn.never rfl (pit_range1 (by rfl) zs.range_ pv_int) (pg_name (i := 3) sc_l_minus_list.nd rfl (by first | exact .inl rfl | exact .inr rfl)) (gv_name (i := 3)) rfl (fun x2 s5 => sv_w [] [.val (dI s5.1), .val (dI s5.2.1), .own (s5.2.2.map dI), .val (dI x2), .un, .un] rfl <| sv_ifret (pt_cmp' (ov_eq lw_int hr.units) (nv n_l_minus_list_1 (f := dI) (z := s5.2.1) rfl) pv_int (nomark _)) (sr_retO (z := s5.2.2) (f := fun (z : List Int) => z.map dI) (bs := fun _ => []) (i := 2) n_l_minus_list_2 rfl) <| sv_c (n1_set n_l_minus_list_4 (f := dI) (pv_op ov_div (pv_op ov_sub (pv_op ov_add (nv n_l_minus_list_0 (f := dI) (z := s5.1) rfl) (nv n_l_minus_list_1 (f := dI) (z := s5.2.1) rfl)) pv_int) (nv n_l_minus_list_1 (f := dI) (z := s5.2.1) rfl)) sc_l_minus_list.nd lo_l_minus_list_4) fun number_6 => sv_w [] [.val (dI s5.1), .val (dI s5.2.1), .own (s5.2.2.map dI), .val (dI x2), .val (dI number_6), .un] rfl <| sv_c (n1_append (xs := s5.2.2) (f := dI) n_l_minus_list_2 (nv n_l_minus_list_4 (f := dI) (z := number_6) rfl) rfl) fun numbers_7 => sv_w [] [.val (dI s5.1), .val (dI s5.2.1), .own (numbers_7.map dI), .val (dI x2), .val (dI number_6), .un] rfl <| sv_c (n1_set n_l_minus_list_5 (f := dI) (pv_op ov_sub (pv_op ov_mul (nv n_l_minus_list_4 (f := dI) (z := number_6) rfl) (nv n_l_minus_list_1 (f := dI) (z := s5.2.1) rfl)) (nv n_l_minus_list_0 (f := dI) (z := s5.1) rfl)) sc_l_minus_list.nd lo_l_minus_list_5) fun rest_8 => sv_w [] [.val (dI s5.1), .val (dI s5.2.1), .own (numbers_7.map dI), .val (dI x2), .val (dI number_6), .val (dI rest_8)] rfl <| sv_c (n1_set n_l_minus_list_0 (f := dI) (nv n_l_minus_list_1 (f := dI) (z := s5.2.1) rfl) sc_l_minus_list.nd lo_l_minus_list_0) fun part_11 => sv_w [] [.val (dI part_11), .val (dI s5.2.1), .own (numbers_7.map dI), .val (dI x2), .val (dI number_6), .val (dI rest_8)] rfl <| sv_c (n1_set n_l_minus_list_1 (f := dI) (nv n_l_minus_list_5 (f := dI) (z := rest_8) rfl) sc_l_minus_list.nd lo_l_minus_list_1) fun whole_12 => sv_w [] [.val (dI part_11), .val (dI whole_12), .own (numbers_7.map dI), .val (dI x2), .val (dI number_6), .val (dI rest_8)] rfl <| sv_n (sn_w [3, 4, 5] [.val (dI part_11), .val (dI whole_12), .own (numbers_7.map dI), .un, .un, .un] rfl <| sn_nil (s := (part_11, whole_12, numbers_7)) rfl)) (fun _ => rfl)) fun s5 => sr_w [] [.val (dI s5.1), .val (dI s5.2.1), .own (s5.2.2.map dI), .un, .un, .un] rfl <| sr_retO (z := s5.2.2) (f := fun (z : List Int) => z.map dI) (bs := fun _ => []) (i := 2) n_l_minus_list_2 rfl, by rfl⟩)
abbrev s_rounded_up : Stmt := top 5
def N_rounded_up : List Str := ["part", "whole"]
theorem sc_rounded_up : FnScope N_rounded_up ["part", "whole"] (defScope s_rounded_up) := ⟨rfl, rfl, rfl, by decide +kernel, rfl, by decide +kernel, by decide +kernel⟩
theorem n_rounded_up_0 : Nm N_rounded_up (defScope s_rounded_up) 0 "part" := ⟨rfl, by first | exact .inl rfl | exact .inr (.inl rfl), by decide, by decide⟩
theorem lo_rounded_up_0 : Loc (defScope s_rounded_up) "part" := by first | exact .inl rfl | exact .inr rfl
theorem n_rounded_up_1 : Nm N_rounded_up (defScope s_rounded_up) 1 "whole" := ⟨rfl, by first | exact .inl rfl | exact .inr (.inl rfl), by decide, by decide⟩
theorem lo_rounded_up_1 : Loc (defScope s_rounded_up) "whole" := by first | exact .inl rfl | exact .inr rfl
def m_rounded_up (a : Int × Int) : Option Int := match a with
  | (part_, whole_) => (divI (-part_) whole_).bind fun x1 => some (-x1)
abbrev T_rounded_up (P : Program) (w : World) (K : PySem.W.Frag) (mg : Str → Option Value) (base : Heap) : Prop := Gf P w K mg base 2 "rounded_up" ["part", "whole"] (spP K 2 (fun (a : Int × Int) => [dI a.1, dI a.2]) m_rounded_up dI)
theorem ok_rounded_up (zs : Zs mg) (cs : Cs K mg) (d : Df K mg "rounded_up" s_rounded_up ["part", "whole"])  : T_rounded_up P w K mg base :=
  gf_pr d sc_rounded_up rfl (by decide) (fun _ => rfl) (fun f cdv Ar outer s H E hr ⟨part_, whole_⟩ => sr_ex ⟨_, sr_w [] [.val (dI part_), .val (dI whole_)] rfl <| sr_ret (pv_neg (pv_op ov_div (pv_neg (nv n_rounded_up_0 (f := dI) (z := part_) rfl)) (nv n_rounded_up_1 (f := dI) (z := whole_) rfl))), by rfl⟩)
abbrev s_minus_list : Stmt := top 6
def N_minus_list : List Str := ["part", "whole", "numbers", "number"]
theorem sc_minus_list : FnScope N_minus_list ["part", "whole"] (defScope s_minus_list) := ⟨rfl, rfl, rfl, by decide +kernel, rfl, by decide +kernel, by decide +kernel⟩
theorem n_minus_list_0 : Nm N_minus_list (defScope s_minus_list) 0 "part" := ⟨rfl, by first | exact .inl rfl | exact .inr (.inl rfl), by decide, by decide⟩
theorem lo_minus_list_0 : Loc (defScope s_minus_list) "part" := by first | exact .inl rfl | exact .inr rfl
theorem n_minus_list_1 : Nm N_minus_list (defScope s_minus_list) 1 "whole" := ⟨rfl, by first | exact .inl rfl | exact .inr (.inl rfl), by decide, by decide⟩
theorem lo_minus_list_1 : Loc (defScope s_minus_list) "whole" := by first | exact .inl rfl | exact .inr rfl
theorem n_minus_list_2 : Nm N_minus_list (defScope s_minus_list) 2 "numbers" := ⟨rfl, by first | exact .inl rfl | exact .inr (.inl rfl), by decide, by decide⟩
theorem lo_minus_list_2 : Loc (defScope s_minus_list) "numbers" := by first | exact .inl rfl | exact .inr rfl
theorem n_minus_list_3 : Nm N_minus_list (defScope s_minus_list) 3 "number" := ⟨rfl, by first | exact .inl rfl | exact .inr (.inl rfl), by decide, by decide⟩
theorem lo_minus_list_3 : Loc (defScope s_minus_list) "number" := by first | exact .inl rfl | exact .inr rfl
def m_minus_list (a : Int × Int) : Option (List Int) := match a with
  | (part_, whole_) => (some ([] : List Int)).bind fun numbers_1 => (whileN FUEL (fun (s4 : Int × Int × List Int) => (some (!decide (s4.2.1 = (0 : Int))) : Option Bool)) (fun (s4 : Int × Int × List Int) => ((m_rounded_up (s4.1, s4.2.1)).bind fun number_5 => (appT s4.2.2 number_5).bind fun numbers_6 => (((mulI number_5 s4.2.1).bind fun x8 => some (x8 - s4.1)).bind fun x9 => some (s4.2.1, x9)).bind fun t7 => some (t7.1, t7.2, numbers_6) : Option (Int × Int × List Int))) (part_, whole_, numbers_1)).bind fun s4 => some s4.2.2
abbrev T_minus_list (P : Program) (w : World) (K : PySem.W.Frag) (mg : Str → Option Value) (base : Heap) : Prop := Gf P w K mg base 3 "minus_list" ["part", "whole"] (spN K 2 (fun (a : Int × Int) => [dI a.1, dI a.2]) m_minus_list (fun z : List Int => z.map dI))
theorem ok_minus_list (zs : Zs mg) (cs : Cs K mg) (d : Df K mg "minus_list" s_minus_list ["part", "whole"]) (g_rounded_up : T_rounded_up P w K mg base) : T_minus_list P w K mg base :=
  gf_nr d sc_minus_list rfl (by decide) (fun _ => rfl) (fun f cdv Ar outer s H E hr ⟨part_, whole_⟩ => sr_ex ⟨_, sr_w [] [.val (dI part_), .val (dI whole_), .un, .un] rfl <| sr_cons (n1_setN n_minus_list_2 (f := fun (z : List Int) => z.map dI) (by exact (pn_dis (f := dI) pln_nil)) (by show 2 < 4; decide) sc_minus_list.nd lo_minus_list_2) fun numbers_1 => sr_w [] [.val (dI part_), .val (dI whole_), .own (numbers_1.map dI), .un] rfl <| sr_cons (E := fun (s4 : Int × Int × List Int) => [.val (dI s4.1), .val (dI s4.2.1), .own (s4.2.2.map dI), .un]) (n1_while (s0 := (part_, whole_, numbers_1)) PassesOwn.never rfl (fun s4 => (pt_cmp' (ov_ne lw_int hr.units) (nv n_minus_list_1 (f := dI) (z := s4.2.1) rfl) pv_int (nomark _))) (fun s4 => sn_cons (n1_set n_minus_list_3 (f := dI) (pv_cg g_rounded_up hr (by decide) (by rfl) (par_cons (nv n_minus_list_0 (f := dI) (z := s4.1) rfl) (par_one (nv n_minus_list_1 (f := dI) (z := s4.2.1) rfl))) (fun _ => rfl) (fun _ => rfl)) sc_minus_list.nd lo_minus_list_3) fun number_5 => sn_w [] [.val (dI s4.1), .val (dI s4.2.1), .own (s4.2.2.map dI), .val (dI number_5)] rfl <| sn_cons (n1_append (xs := s4.2.2) (f := dI) n_minus_list_2 (nv n_minus_list_3 (f := dI) (z := number_5) rfl) rfl) fun numbers_6 => sn_w [] [.val (dI s4.1), .val (dI s4.2.1), .own (numbers_6.map dI), .val (dI number_5)] rfl <| sn_cons (n1_par (f := dI) (g := dI) n_minus_list_0 n_minus_list_1 (nv n_minus_list_1 (f := dI) (z := s4.2.1) rfl) (pv_op ov_sub (pv_op ov_mul (nv n_minus_list_3 (f := dI) (z := number_5) rfl) (nv n_minus_list_1 (f := dI) (z := s4.2.1) rfl)) (nv n_minus_list_0 (f := dI) (z := s4.1) rfl)) rfl sc_minus_list.nd (by decide) rfl rfl (fun h => ps_par rfl sc_minus_list.nd rfl rfl (by decide) rfl rfl h rfl)) fun t7 => sn_w [] [.val (dI t7.1), .val (dI t7.2), .own (numbers_6.map dI), .val (dI number_5)] rfl <| sn_w [3] [.val (dI t7.1), .val (dI t7.2), .own (numbers_6.map dI), .un] rfl <| sn_nil (s := (t7.1, t7.2, numbers_6)) rfl)) fun s4 => sr_w [] [.val (dI s4.1), .val (dI s4.2.1), .own (s4.2.2.map dI), .un] rfl <| sr_retO (z := s4.2.2) (f := fun (z : List Int) => z.map dI) (bs := fun _ => []) (i := 2) n_minus_list_2 rfl, by rfl⟩)
abbrev s_numbers_of : Stmt := top 9
def N_numbers_of : List Str := ["part", "whole"]
theorem sc_numbers_of : FnScope N_numbers_of ["part", "whole"] (defScope s_numbers_of) := ⟨rfl, rfl, rfl, by decide +kernel, rfl, by decide +kernel, by decide +kernel⟩
theorem n_numbers_of_0 : Nm N_numbers_of (defScope s_numbers_of) 0 "part" := ⟨rfl, by first | exact .inl rfl | exact .inr (.inl rfl), by decide, by decide⟩
theorem lo_numbers_of_0 : Loc (defScope s_numbers_of) "part" := by first | exact .inl rfl | exact .inr rfl
theorem n_numbers_of_1 : Nm N_numbers_of (defScope s_numbers_of) 1 "whole" := ⟨rfl, by first | exact .inl rfl | exact .inr (.inl rfl), by decide, by decide⟩
theorem lo_numbers_of_1 : Loc (defScope s_numbers_of) "whole" := by first | exact .inl rfl | exact .inr rfl
def m_numbers_of (a : Int × Int) : Option (List Int) := match a with
  | (part_, whole_) => m_minus_list (part_, whole_)
abbrev T_numbers_of (P : Program) (w : World) (K : PySem.W.Frag) (mg : Str → Option Value) (base : Heap) : Prop := Gf P w K mg base 4 "numbers_of" ["part", "whole"] (spN K 2 (fun (a : Int × Int) => [dI a.1, dI a.2]) m_numbers_of (fun z : List Int => z.map dI))
theorem ok_numbers_of (zs : Zs mg) (cs : Cs K mg) (d : Df K mg "numbers_of" s_numbers_of ["part", "whole"]) (g_minus_list : T_minus_list P w K mg base) : T_numbers_of P w K mg base :=
  gf_nr d sc_numbers_of rfl (by decide) (fun _ => rfl) (fun f cdv Ar outer s H E hr ⟨part_, whole_⟩ => sr_ex ⟨_, sr_w [] [.val (dI part_), .val (dI whole_)] rfl <| sr_retN (pn_cg g_minus_list hr (by decide) (by rfl) (par_cons (nv n_numbers_of_0 (f := dI) (z := part_) rfl) (par_one (nv n_numbers_of_1 (f := dI) (z := whole_) rfl))) (fun _ => rfl) (fun _ => rfl)), by rfl⟩)
abbrev s_multiplied : Stmt := top 2
def N_multiplied : List Str := ["one", "other", "p", "q", "r", "s", "t", "u", "v", "w"]
theorem sc_multiplied : FnScope N_multiplied ["one", "other"] (defScope s_multiplied) := ⟨rfl, rfl, rfl, by decide +kernel, rfl, by decide +kernel, by decide +kernel⟩
theorem n_multiplied_0 : Nm N_multiplied (defScope s_multiplied) 0 "one" := ⟨rfl, by first | exact .inl rfl | exact .inr (.inl rfl), by decide, by decide⟩
theorem lo_multiplied_0 : Loc (defScope s_multiplied) "one" := by first | exact .inl rfl | exact .inr rfl
theorem n_multiplied_1 : Nm N_multiplied (defScope s_multiplied) 1 "other" := ⟨rfl, by first | exact .inl rfl | exact .inr (.inl rfl), by decide, by decide⟩
theorem lo_multiplied_1 : Loc (defScope s_multiplied) "other" := by first | exact .inl rfl | exact .inr rfl
theorem n_multiplied_2 : Nm N_multiplied (defScope s_multiplied) 2 "p" := ⟨rfl, by first | exact .inl rfl | exact .inr (.inl rfl), by decide, by decide⟩
theorem lo_multiplied_2 : Loc (defScope s_multiplied) "p" := by first | exact .inl rfl | exact .inr rfl
theorem n_multiplied_3 : Nm N_multiplied (defScope s_multiplied) 3 "q" := ⟨rfl, by first | exact .inl rfl | exact .inr (.inl rfl), by decide, by decide⟩
theorem lo_multiplied_3 : Loc (defScope s_multiplied) "q" := by first | exact .inl rfl | exact .inr rfl
theorem n_multiplied_4 : Nm N_multiplied (defScope s_multiplied) 4 "r" := ⟨rfl, by first | exact .inl rfl | exact .inr (.inl rfl), by decide, by decide⟩
theorem lo_multiplied_4 : Loc (defScope s_multiplied) "r" := by first | exact .inl rfl | exact .inr rfl
theorem n_multiplied_5 : Nm N_multiplied (defScope s_multiplied) 5 "s" := ⟨rfl, by first | exact .inl rfl | exact .inr (.inl rfl), by decide, by decide⟩
theorem lo_multiplied_5 : Loc (defScope s_multiplied) "s" := by first | exact .inl rfl | exact .inr rfl
theorem n_multiplied_6 : Nm N_multiplied (defScope s_multiplied) 6 "t" := ⟨rfl, by first | exact .inl rfl | exact .inr (.inl rfl), by decide, by decide⟩
theorem lo_multiplied_6 : Loc (defScope s_multiplied) "t" := by first | exact .inl rfl | exact .inr rfl
theorem n_multiplied_7 : Nm N_multiplied (defScope s_multiplied) 7 "u" := ⟨rfl, by first | exact .inl rfl | exact .inr (.inl rfl), by decide, by decide⟩
theorem lo_multiplied_7 : Loc (defScope s_multiplied) "u" := by first | exact .inl rfl | exact .inr rfl
theorem n_multiplied_8 : Nm N_multiplied (defScope s_multiplied) 8 "v" := ⟨rfl, by first | exact .inl rfl | exact .inr (.inl rfl), by decide, by decide⟩
theorem lo_multiplied_8 : Loc (defScope s_multiplied) "v" := by first | exact .inl rfl | exact .inr rfl
theorem n_multiplied_9 : Nm N_multiplied (defScope s_multiplied) 9 "w" := ⟨rfl, by first | exact .inl rfl | exact .inr (.inl rfl), by decide, by decide⟩
theorem lo_multiplied_9 : Loc (defScope s_multiplied) "w" := by first | exact .inl rfl | exact .inr rfl
def m_multiplied (a : (Int × Int × Int × Int) × (Int × Int × Int × Int)) : Option (Int × Int × Int × Int) := match a with
  | (one_, other_) => (some one_).bind fun t1 => (some other_).bind fun t2 => ((mulI t1.1 t2.1).bind fun x3 => (mulI t1.2.1 t2.2.2.1).bind fun x4 => some (x3 + x4)).bind fun x15 => (((mulI t1.1 t2.2.1).bind fun x5 => (mulI t1.2.1 t2.2.2.2).bind fun x6 => some (x5 + x6)).bind fun x13 => (((mulI t1.2.2.1 t2.1).bind fun x7 => (mulI t1.2.2.2 t2.2.2.1).bind fun x8 => some (x7 + x8)).bind fun x11 => ((mulI t1.2.2.1 t2.2.1).bind fun x9 => (mulI t1.2.2.2 t2.2.2.2).bind fun x10 => some (x9 + x10)).bind fun x12 => some (x11, x12)).bind fun x14 => some (x13, x14)).bind fun x16 => some (x15, x16)
abbrev T_multiplied (P : Program) (w : World) (K : PySem.W.Frag) (mg : Str → Option Value) (base : Heap) : Prop := Gf P w K mg base 2 "multiplied" ["one", "other"] (spP K 2 (fun (a : (Int × Int × Int × Int) × (Int × Int × Int × Int)) => [(d4 dI dI dI dI) a.1, (d4 dI dI dI dI) a.2]) m_multiplied (d4 dI dI dI dI))
theorem ok_multiplied (zs : Zs mg) (cs : Cs K mg) (d : Df K mg "multiplied" s_multiplied ["one", "other"])  : T_multiplied P w K mg base :=
  gf_pr d sc_multiplied rfl (by decide) (fun _ => rfl) (fun f cdv Ar outer s H E hr ⟨one_, other_⟩ => sr_ex ⟨_, sr_w [] [.val ((d4 dI dI dI dI) one_), .val ((d4 dI dI dI dI) other_), .un, .un, .un, .un, .un, .un, .un, .un] rfl <| sr_cons (n1_tup (f := (d4 dI dI dI dI)) (nv n_multiplied_0 (f := (d4 dI dI dI dI)) (z := one_) rfl) (pg_tup rfl (pgs_cons (pg_name (i := 2) sc_multiplied.nd rfl (by first | exact .inl rfl | exact .inr rfl)) (pgs_cons (pg_name (i := 3) sc_multiplied.nd rfl (by first | exact .inl rfl | exact .inr rfl)) (pgs_cons (pg_name (i := 4) sc_multiplied.nd rfl (by first | exact .inl rfl | exact .inr rfl)) (pgs_cons (pg_name (i := 5) sc_multiplied.nd rfl (by first | exact .inl rfl | exact .inr rfl)) pgs_nil))))) gv_4) fun t1 => sr_w [] [.val ((d4 dI dI dI dI) one_), .val ((d4 dI dI dI dI) other_), .val (dI t1.1), .val (dI t1.2.1), .val (dI t1.2.2.1), .val (dI t1.2.2.2), .un, .un, .un, .un] rfl <| sr_cons (n1_tup (f := (d4 dI dI dI dI)) (nv n_multiplied_1 (f := (d4 dI dI dI dI)) (z := other_) rfl) (pg_tup rfl (pgs_cons (pg_name (i := 6) sc_multiplied.nd rfl (by first | exact .inl rfl | exact .inr rfl)) (pgs_cons (pg_name (i := 7) sc_multiplied.nd rfl (by first | exact .inl rfl | exact .inr rfl)) (pgs_cons (pg_name (i := 8) sc_multiplied.nd rfl (by first | exact .inl rfl | exact .inr rfl)) (pgs_cons (pg_name (i := 9) sc_multiplied.nd rfl (by first | exact .inl rfl | exact .inr rfl)) pgs_nil))))) gv_4) fun t2 => sr_w [] [.val ((d4 dI dI dI dI) one_), .val ((d4 dI dI dI dI) other_), .val (dI t1.1), .val (dI t1.2.1), .val (dI t1.2.2.1), .val (dI t1.2.2.2), .val (dI t2.1), .val (dI t2.2.1), .val (dI t2.2.2.1), .val (dI t2.2.2.2)] rfl <| sr_ret (pv_tup4 (pv_op ov_add (pv_op ov_mul (nv n_multiplied_2 (f := dI) (z := t1.1) rfl) (nv n_multiplied_6 (f := dI) (z := t2.1) rfl)) (pv_op ov_mul (nv n_multiplied_3 (f := dI) (z := t1.2.1) rfl) (nv n_multiplied_8 (f := dI) (z := t2.2.2.1) rfl))) (pv_op ov_add (pv_op ov_mul (nv n_multiplied_2 (f := dI) (z := t1.1) rfl) (nv n_multiplied_7 (f := dI) (z := t2.2.1) rfl)) (pv_op ov_mul (nv n_multiplied_3 (f := dI) (z := t1.2.1) rfl) (nv n_multiplied_9 (f := dI) (z := t2.2.2.2) rfl))) (pv_op ov_add (pv_op ov_mul (nv n_multiplied_4 (f := dI) (z := t1.2.2.1) rfl) (nv n_multiplied_6 (f := dI) (z := t2.1) rfl)) (pv_op ov_mul (nv n_multiplied_5 (f := dI) (z := t1.2.2.2) rfl) (nv n_multiplied_8 (f := dI) (z := t2.2.2.1) rfl))) (pv_op ov_add (pv_op ov_mul (nv n_multiplied_4 (f := dI) (z := t1.2.2.1) rfl) (nv n_multiplied_7 (f := dI) (z := t2.2.1) rfl)) (pv_op ov_mul (nv n_multiplied_5 (f := dI) (z := t1.2.2.2) rfl) (nv n_multiplied_9 (f := dI) (z := t2.2.2.2) rfl)))), by rfl⟩)
abbrev s_turned_by : Stmt := top 3
def N_turned_by : List Str := ["numbers", "table", "number"]
theorem sc_turned_by : FnScope N_turned_by ["numbers"] (defScope s_turned_by) := ⟨rfl, rfl, rfl, by decide +kernel, rfl, by decide +kernel, by decide +kernel⟩
theorem n_turned_by_0 : Nm N_turned_by (defScope s_turned_by) 0 "numbers" := ⟨rfl, by first | exact .inl rfl | exact .inr (.inl rfl), by decide, by decide⟩
theorem lo_turned_by_0 : Loc (defScope s_turned_by) "numbers" := by first | exact .inl rfl | exact .inr rfl
theorem n_turned_by_1 : Nm N_turned_by (defScope s_turned_by) 1 "table" := ⟨rfl, by first | exact .inl rfl | exact .inr (.inl rfl), by decide, by decide⟩
theorem lo_turned_by_1 : Loc (defScope s_turned_by) "table" := by first | exact .inl rfl | exact .inr rfl
theorem n_turned_by_2 : Nm N_turned_by (defScope s_turned_by) 2 "number" := ⟨rfl, by first | exact .inl rfl | exact .inr (.inl rfl), by decide, by decide⟩
theorem lo_turned_by_2 : Loc (defScope s_turned_by) "number" := by first | exact .inl rfl | exact .inr rfl
def m_turned_by (a : (List Int)) : Option (Int × Int × Int × Int) := match a with
  | numbers_ => (some c_NOTHING).bind fun table_1 => (forN numbers_ (fun (x2 : Int) (s5 : (Int × Int × Int × Int)) => ((m_multiplied (s5, (x2, ((-(1 : Int)), ((1 : Int), (0 : Int)))))).bind fun table_6 => some table_6 : Option (Int × Int × Int × Int))) table_1).bind fun s5 => some s5
abbrev T_turned_by (P : Program) (w : World) (K : PySem.W.Frag) (mg : Str → Option Value) (base : Heap) : Prop := Gf P w K mg base 3 "turned_by" ["numbers"] (spP K 1 (fun (a : (List Int)) => [(dL dI) a]) m_turned_by (d4 dI dI dI dI))
theorem ok_turned_by (zs : Zs mg) (cs : Cs K mg) (d : Df K mg "turned_by" s_turned_by ["numbers"]) (g_multiplied : T_multiplied P w K mg base) : T_turned_by P w K mg base :=
  gf_pr d sc_turned_by rfl (by decide) (fun _ => rfl) (fun f cdv Ar outer s H E hr numbers_ => sr_ex ⟨_, sr_w [] [.val ((dL dI) numbers_), .un, .un] rfl <| sr_cons (n1_set n_turned_by_1 (f := (d4 dI dI dI dI)) (pv_ct (f := (d4 dI dI dI dI)) cs.NOTHING_ (by rfl)) sc_turned_by.nd lo_turned_by_1) fun table_1 => sr_w [] [.val ((dL dI) numbers_), .val ((d4 dI dI dI dI) table_1), .un] rfl <| sr_cons (E := fun (s5 : (Int × Int × Int × Int)) => [.val ((dL dI) numbers_), .val ((d4 dI dI dI dI) s5), .un]) (n1_for (fx := dI) (s0 := table_1) PassesOwn.never rfl (pit_val (f := dI) (nv n_turned_by_0 (f := (dL dI)) (z := numbers_) rfl)) (pg_name (i := 2) sc_turned_by.nd rfl (by first | exact .inl rfl | exact .inr rfl)) (gv_name (i := 2)) rfl (fun x2 s5 => sn_w [] [.val ((dL dI) numbers_), .val ((d4 dI dI dI dI) s5), .val (dI x2)] rfl <| sn_cons (n1_set n_turned_by_1 (f := (d4 dI dI dI dI)) (pv_cg g_multiplied hr (by decide) (by rfl) (par_cons (nv n_turned_by_1 (f := (d4 dI dI dI dI)) (z := s5) rfl) (par_one (pv_tup4 (nv n_turned_by_2 (f := dI) (z := x2) rfl) (pv_neg pv_int) pv_int pv_int))) (fun _ => rfl) (fun _ => rfl)) sc_turned_by.nd lo_turned_by_1) fun table_6 => sn_w [] [.val ((dL dI) numbers_), .val ((d4 dI dI dI dI) table_6), .val (dI x2)] rfl <| sn_w [2] [.val ((dL dI) numbers_), .val ((d4 dI dI dI dI) table_6), .un] rfl <| sn_nil (s := table_6) rfl)) fun s5 => sr_w [] [.val ((dL dI) numbers_), .val ((d4 dI dI dI dI) s5), .un] rfl <| sr_ret (nv n_turned_by_1 (f := (d4 dI dI dI dI)) (z := s5) rfl), by rfl⟩)
abbrev s_fraction_of : Stmt := top 8
def N_fraction_of : List Str := ["numbers"]
theorem sc_fraction_of : FnScope N_fraction_of ["numbers"] (defScope s_fraction_of) := ⟨rfl, rfl, rfl, by decide +kernel, rfl, by decide +kernel, by decide +kernel⟩
theorem n_fraction_of_0 : Nm N_fraction_of (defScope s_fraction_of) 0 "numbers" := ⟨rfl, by first | exact .inl rfl | exact .inr (.inl rfl), by decide, by decide⟩
theorem lo_fraction_of_0 : Loc (defScope s_fraction_of) "numbers" := by first | exact .inl rfl | exact .inr rfl
def m_fraction_of (a : (List Int)) : Option (Int × Int) := match a with
  | numbers_ => ((m_turned_by numbers_).bind fun x1 => some x1.1).bind fun x3 => ((m_turned_by (cutL numbers_ (some (1 : Int)) none)).bind fun x2 => some x2.1).bind fun x4 => some (x3, x4)
abbrev T_fraction_of (P : Program) (w : World) (K : PySem.W.Frag) (mg : Str → Option Value) (base : Heap) : Prop := Gf P w K mg base 4 "fraction_of" ["numbers"] (spP K 1 (fun (a : (List Int)) => [(dL dI) a]) m_fraction_of (d2 dI dI))
theorem ok_fraction_of (zs : Zs mg) (cs : Cs K mg) (d : Df K mg "fraction_of" s_fraction_of ["numbers"]) (g_turned_by : T_turned_by P w K mg base) : T_fraction_of P w K mg base :=
  gf_pr d sc_fraction_of rfl (by decide) (fun _ => rfl) (fun f cdv Ar outer s H E hr numbers_ => sr_ex ⟨_, sr_w [] [.val ((dL dI) numbers_)] rfl <| sr_ret (pv_tup2 (pv_40 (pv_cg g_turned_by hr (by decide) (by rfl) (par_one (nv n_fraction_of_0 (f := (dL dI)) (z := numbers_) rfl)) (fun _ => rfl) (fun _ => rfl))) (pv_40 (pv_cg g_turned_by hr (by decide) (by rfl) (par_one (pv_list (pn_slice (f1 := (aD (dL dI))) (f := dI) (nv n_fraction_of_0 (f := (dL dI)) (z := numbers_) rfl) (pop_some pv_int) pop_none))) (fun _ => rfl) (fun _ => rfl)))), by rfl⟩)
abbrev s_turned_fraction : Stmt := top 10
def N_turned_fraction : List Str := ["part", "whole"]
theorem sc_turned_fraction : FnScope N_turned_fraction ["part", "whole"] (defScope s_turned_fraction) := ⟨rfl, rfl, rfl, by decide +kernel, rfl, by decide +kernel, by decide +kernel⟩
theorem n_turned_fraction_0 : Nm N_turned_fraction (defScope s_turned_fraction) 0 "part" := ⟨rfl, by first | exact .inl rfl | exact .inr (.inl rfl), by decide, by decide⟩
theorem lo_turned_fraction_0 : Loc (defScope s_turned_fraction) "part" := by first | exact .inl rfl | exact .inr rfl
theorem n_turned_fraction_1 : Nm N_turned_fraction (defScope s_turned_fraction) 1 "whole" := ⟨rfl, by first | exact .inl rfl | exact .inr (.inl rfl), by decide, by decide⟩
theorem lo_turned_fraction_1 : Loc (defScope s_turned_fraction) "whole" := by first | exact .inl rfl | exact .inr rfl
def m_turned_fraction (a : Int × Int) : Option (Int × Int) := match a with
  | (part_, whole_) => ((m_numbers_of (part_, whole_)).bind fun x1 => some x1.reverse).bind fun x2 => m_fraction_of x2
abbrev T_turned_fraction (P : Program) (w : World) (K : PySem.W.Frag) (mg : Str → Option Value) (base : Heap) : Prop := Gf P w K mg base 5 "turned_fraction" ["part", "whole"] (spP K 2 (fun (a : Int × Int) => [dI a.1, dI a.2]) m_turned_fraction (d2 dI dI))
theorem ok_turned_fraction (zs : Zs mg) (cs : Cs K mg) (d : Df K mg "turned_fraction" s_turned_fraction ["part", "whole"]) (g_fraction_of : T_fraction_of P w K mg base) (g_numbers_of : T_numbers_of P w K mg base) : T_turned_fraction P w K mg base :=
  gf_pr d sc_turned_fraction rfl (by decide) (fun _ => rfl) (fun f cdv Ar outer s H E hr ⟨part_, whole_⟩ => sr_ex ⟨_, sr_w [] [.val (dI part_), .val (dI whole_)] rfl <| sr_ret (pv_cg g_fraction_of hr (by decide) (by rfl) (par_one (pv_list (pn_rev (f1 := (aD (dL dI))) (f := dI) (pv_list (pn_cg g_numbers_of hr (by decide) (by rfl) (par_cons (nv n_turned_fraction_0 (f := dI) (z := part_) rfl) (par_one (nv n_turned_fraction_1 (f := dI) (z := whole_) rfl))) (fun _ => rfl) (fun _ => rfl)))))) (fun _ => rfl) (fun _ => rfl)), by rfl⟩)
abbrev s_l_right : Stmt := top 22
def N_l_right : List Str := ["part", "whole", "numbers", "due", "told", "others", "k"]
theorem sc_l_right : FnScope N_l_right ["part", "whole"] (defScope s_l_right) := ⟨rfl, rfl, rfl, by decide +kernel, rfl, by decide +kernel, by decide +kernel⟩
theorem n_l_right_0 : Nm N_l_right (defScope s_l_right) 0 "part" := ⟨rfl, by first | exact .inl rfl | exact .inr (.inl rfl), by decide, by decide⟩
theorem lo_l_right_0 : Loc (defScope s_l_right) "part" := by first | exact .inl rfl | exact .inr rfl
theorem n_l_right_1 : Nm N_l_right (defScope s_l_right) 1 "whole" := ⟨rfl, by first | exact .inl rfl | exact .inr (.inl rfl), by decide, by decide⟩
theorem lo_l_right_1 : Loc (defScope s_l_right) "whole" := by first | exact .inl rfl | exact .inr rfl
theorem n_l_right_2 : Nm N_l_right (defScope s_l_right) 2 "numbers" := ⟨rfl, by first | exact .inl rfl | exact .inr (.inl rfl), by decide, by decide⟩
theorem lo_l_right_2 : Loc (defScope s_l_right) "numbers" := by first | exact .inl rfl | exact .inr rfl
theorem n_l_right_3 : Nm N_l_right (defScope s_l_right) 3 "due" := ⟨rfl, by first | exact .inl rfl | exact .inr (.inl rfl), by decide, by decide⟩
theorem lo_l_right_3 : Loc (defScope s_l_right) "due" := by first | exact .inl rfl | exact .inr rfl
theorem n_l_right_4 : Nm N_l_right (defScope s_l_right) 4 "told" := ⟨rfl, by first | exact .inl rfl | exact .inr (.inl rfl), by decide, by decide⟩
theorem lo_l_right_4 : Loc (defScope s_l_right) "told" := by first | exact .inl rfl | exact .inr rfl
theorem n_l_right_5 : Nm N_l_right (defScope s_l_right) 5 "others" := ⟨rfl, by first | exact .inl rfl | exact .inr (.inl rfl), by decide, by decide⟩
theorem lo_l_right_5 : Loc (defScope s_l_right) "others" := by first | exact .inl rfl | exact .inr rfl
def m_l_right (a : Int × Int) : Option Bool := match a with
  | (part_, whole_) => (m_l_minus_list (part_, whole_)).bind fun numbers_1 => (m_l_minus_worth numbers_1.reverse).bind fun due_2 => (m_turned_fraction (part_, whole_)).bind fun told_3 => (VS.orM ((m_l_pair (told_3, due_2)).bind fun x4 => some (!x4)) (VS.orM (some (!decide (told_3.1 = part_))) (VS.orM (some (decide (told_3.2 < (1 : Int)))) (some (decide (part_ ≤ told_3.2)))))).bind fun k22 => if k22 then some false else ((((mulI told_3.2 whole_).bind intI).bind fun x5 => modI x5 part_).bind fun x6 => some (!decide (x6 = (1 : Int)))).bind fun k21 => if k21 then some false else thenR (if decide (part_ < (200 : Int)) then ((range2 (1 : Int) part_).bind fun x12 => compM x12 (fun y9 => (((mulI y9 whole_).bind intI).bind fun x10 => modI x10 part_).bind fun x11 => some (decide (x11 = (1 : Int)))) (fun y9 => some y9)).bind fun others_8 => if !decide (others_8 = (told_3.2 :: [] : List Int)) then (some false).bind fun r => some (.inr r) else some (.inl ()) else some (.inl ()) : Option (Sum Unit Bool)) fun s7 => ((((m_turned_fraction (told_3.1, told_3.2)).bind fun x15 => some (x15, (part_, whole_))).bind fun x16 => m_l_pair x16).bind fun x17 => some (!x17)).bind fun k20 => if k20 then some false else ((m_numbers_of (told_3.1, told_3.2)).bind fun x18 => some (x18, numbers_1.reverse)).bind fun x19 => m_l_list x19
abbrev T_l_right (P : Program) (w : World) (K : PySem.W.Frag) (mg : Str → Option Value) (base : Heap) : Prop := Gf P w K mg base 6 "_law_right" ["part", "whole"] (spP K 2 (fun (a : Int × Int) => [dI a.1, dI a.2]) m_l_right dB)
theorem ok_l_right (zs : Zs mg) (cs : Cs K mg) (d : Df K mg "_law_right" s_l_right ["part", "whole"]) (g_l_list : T_l_list P w K mg base) (g_l_minus_list : T_l_minus_list P w K mg base) (g_l_minus_worth : T_l_minus_worth P w K mg base) (g_l_pair : T_l_pair P w K mg base) (g_numbers_of : T_numbers_of P w K mg base) (g_turned_fraction : T_turned_fraction P w K mg base) : T_l_right P w K mg base :=
  gf_pr d sc_l_right rfl (by decide) (fun _ => rfl) (fun f cdv Ar outer s H E hr ⟨part_, whole_⟩ => sr_ex ⟨_, sr_w [] [.val (dI part_), .val (dI whole_), .un, .un, .un, .un, .un] rfl <| sr_cons (n1_set n_l_right_2 (f := (dL dI)) (pv_list (pn_cg g_l_minus_list hr (by decide) (by rfl) (par_cons (nv n_l_right_0 (f := dI) (z := part_) rfl) (par_one (nv n_l_right_1 (f := dI) (z := whole_) rfl))) (fun _ => rfl) (fun _ => rfl))) sc_l_right.nd lo_l_right_2) fun numbers_1 => sr_w [] [.val (dI part_), .val (dI whole_), .val ((dL dI) numbers_1), .un, .un, .un, .un] rfl <| sr_cons (n1_set n_l_right_3 (f := (d2 dI dI)) (pv_cg g_l_minus_worth hr (by decide) (by rfl) (par_one (pv_list (pn_rev (f1 := (aD (dL dI))) (f := dI) (nv n_l_right_2 (f := (dL dI)) (z := numbers_1) rfl)))) (fun _ => rfl) (fun _ => rfl)) sc_l_right.nd lo_l_right_3) fun due_2 => sr_w [] [.val (dI part_), .val (dI whole_), .val ((dL dI) numbers_1), .val ((d2 dI dI) due_2), .un, .un, .un] rfl <| sr_cons (n1_set n_l_right_4 (f := (d2 dI dI)) (pv_cg g_turned_fraction hr (by decide) (by rfl) (par_cons (nv n_l_right_0 (f := dI) (z := part_) rfl) (par_one (nv n_l_right_1 (f := dI) (z := whole_) rfl))) (fun _ => rfl) (fun _ => rfl)) sc_l_right.nd lo_l_right_4) fun told_3 => sr_w [] [.val (dI part_), .val (dI whole_), .val ((dL dI) numbers_1), .val ((d2 dI dI) due_2), .val ((d2 dI dI) told_3), .un, .un] rfl <| sr_ifret (PWe.pt (pw_o (pt_not' (pt_v (pv_cg g_l_pair hr (by decide) (by rfl) (par_cons (nv n_l_right_4 (f := (d2 dI dI)) (z := told_3) rfl) (par_one (nv n_l_right_3 (f := (d2 dI dI)) (z := due_2) rfl))) (fun _ => rfl) (fun _ => rfl)))) (pw_o (pt_cmp' (ov_ne lw_int hr.units) (pv_20 (nv n_l_right_4 (f := (d2 dI dI)) (z := told_3) rfl)) (nv n_l_right_0 (f := dI) (z := part_) rfl) (nomark _)) (pw_o (pt_cmp' ov_lt (pv_21 (nv n_l_right_4 (f := (d2 dI dI)) (z := told_3) rfl)) pv_int (nomark _)) (pw_o1 (pt_cmp' ov_ge (pv_21 (nv n_l_right_4 (f := (d2 dI dI)) (z := told_3) rfl)) (nv n_l_right_0 (f := dI) (z := part_) rfl) (nomark _))))))) (sr_ret pv_bool) <| sr_ifret (pt_cmp' (ov_ne lw_int hr.units) (pv_op ov_mod (pv_callTy cv_int (by rfl) zs.int_ b_int (par_one (pv_op ov_mul (pv_21 (nv n_l_right_4 (f := (d2 dI dI)) (z := told_3) rfl)) (nv n_l_right_1 (f := dI) (z := whole_) rfl)))) (nv n_l_right_0 (f := dI) (z := part_) rfl)) pv_int (nomark _)) (sr_ret pv_bool) <| sr_sv (E := fun (s7 : Unit) => [.val (dI part_), .val (dI whole_), .val ((dL dI) numbers_1), .val ((d2 dI dI) due_2), .val ((d2 dI dI) told_3), .un, .un]) (s1_if (pt_cmp' ov_lt (nv n_l_right_0 (f := dI) (z := part_) rfl) pv_int (nomark _)) (sv_c (n1_lc (fx := dI) (f := dI) n_l_right_5 rfl rfl sc_l_right.nd (PIt.pure (pit_range2 (by rfl) zs.range_ pv_int (nv n_l_right_0 (f := dI) (z := part_) rfl))) (blkOk_by (N := N_l_right) (sc := defScope s_l_right) (own := [("k", 6)]) (by decide +kernel)) (fun _ _ _ _ _ => (pg_name (i := 6) sc_l_right.nd rfl (by first | exact .inl rfl | exact .inr rfl))) (gv_name (i := 6)) (fun y9 _ _ _ _ _ => pts_c (pt_cmp' (ov_eq lw_int hr.units) (pv_op ov_mod (pv_callTy cv_int (by rfl) zs.int_ b_int (par_one (pv_op ov_mul (nv (i := 6) ⟨rfl, by first | exact .inl rfl | exact .inr (.inl rfl) | exact .inr (.inr rfl), by decide, by decide⟩ (f := dI) (z := y9) rfl) (nv (i := 1) ⟨rfl, by first | exact .inl rfl | exact .inr (.inl rfl) | exact .inr (.inr rfl), by decide, by decide⟩ (f := dI) (z := whole_) rfl)))) (nv (i := 0) ⟨rfl, by first | exact .inl rfl | exact .inr (.inl rfl) | exact .inr (.inr rfl), by decide, by decide⟩ (f := dI) (z := part_) rfl)) pv_int (nomark _))) (fun y9 _ _ _ _ _ => (nv (i := 6) ⟨rfl, by first | exact .inl rfl | exact .inr (.inl rfl) | exact .inr (.inr rfl), by decide, by decide⟩ (f := dI) (z := y9) rfl))) fun others_8 => sv_w [] [.val (dI part_), .val (dI whole_), .val ((dL dI) numbers_1), .val ((d2 dI dI) due_2), .val ((d2 dI dI) told_3), .val ((dL dI) others_8), .un] rfl <| sv_ifret (pt_cmp' (ov_ne (lw_list lw_int) hr.units) (nv n_l_right_5 (f := (dL dI)) (z := others_8) rfl) (pv_list (pn_dis (f := dI) (pln_cons (pv_21 (nv n_l_right_4 (f := (d2 dI dI)) (z := told_3) rfl)) pln_nil))) (nomark _)) (sr_ret pv_bool) <| sv_n (sn_w [5] [.val (dI part_), .val (dI whole_), .val ((dL dI) numbers_1), .val ((d2 dI dI) due_2), .val ((d2 dI dI) told_3), .un, .un] rfl <| sn_nil (s := ()) rfl)) (sv_n (sn_w [] [.val (dI part_), .val (dI whole_), .val ((dL dI) numbers_1), .val ((d2 dI dI) due_2), .val ((d2 dI dI) told_3), .un, .un] rfl <| sn_nil (s := ()) rfl))) fun s7 => sr_w [] [.val (dI part_), .val (dI whole_), .val ((dL dI) numbers_1), .val ((d2 dI dI) due_2), .val ((d2 dI dI) told_3), .un, .un] rfl <| sr_ifret (pt_not' (pt_v (pv_cg g_l_pair hr (by decide) (by rfl) (par_cons (pv_cg g_turned_fraction hr (by decide) (by rfl) (par_cons (pv_20 (nv n_l_right_4 (f := (d2 dI dI)) (z := told_3) rfl)) (par_one (pv_21 (nv n_l_right_4 (f := (d2 dI dI)) (z := told_3) rfl)))) (fun _ => rfl) (fun _ => rfl)) (par_one (pv_tup2 (nv n_l_right_0 (f := dI) (z := part_) rfl) (nv n_l_right_1 (f := dI) (z := whole_) rfl)))) (fun _ => rfl) (fun _ => rfl)))) (sr_ret pv_bool) <| sr_ret (pv_cg g_l_list hr (by decide) (by rfl) (par_cons (pv_list (pn_cg g_numbers_of hr (by decide) (by rfl) (par_cons (pv_20 (nv n_l_right_4 (f := (d2 dI dI)) (z := told_3) rfl)) (par_one (pv_21 (nv n_l_right_4 (f := (d2 dI dI)) (z := told_3) rfl)))) (fun _ => rfl) (fun _ => rfl))) (par_one (pv_list (pn_rev (f1 := (aD (dL dI))) (f := dI) (nv n_l_right_2 (f := (dL dI)) (z := numbers_1) rfl))))) (fun _ => rfl) (fun _ => rfl)), by rfl⟩)
abbrev s_law : Stmt := top 23
def N_law : List Str := ["script", "feed", "most", "part", "whole", "numbers", "same", "own", "n"]
theorem sc_law : FnScope N_law ["script"] (defScope s_law) := ⟨rfl, rfl, rfl, by decide +kernel, rfl, by decide +kernel, by decide +kernel⟩
theorem n_law_0 : Nm N_law (defScope s_law) 0 "script" := ⟨rfl, by first | exact .inl rfl | exact .inr (.inl rfl), by decide, by decide⟩
theorem lo_law_0 : Loc (defScope s_law) "script" := by first | exact .inl rfl | exact .inr rfl
theorem n_law_1 : Nm N_law (defScope s_law) 1 "feed" := ⟨rfl, by first | exact .inl rfl | exact .inr (.inl rfl), by decide, by decide⟩
theorem lo_law_1 : Loc (defScope s_law) "feed" := by first | exact .inl rfl | exact .inr rfl
theorem n_law_2 : Nm N_law (defScope s_law) 2 "most" := ⟨rfl, by first | exact .inl rfl | exact .inr (.inl rfl), by decide, by decide⟩
theorem lo_law_2 : Loc (defScope s_law) "most" := by first | exact .inl rfl | exact .inr rfl
theorem n_law_3 : Nm N_law (defScope s_law) 3 "part" := ⟨rfl, by first | exact .inl rfl | exact .inr (.inl rfl), by decide, by decide⟩
theorem lo_law_3 : Loc (defScope s_law) "part" := by first | exact .inl rfl | exact .inr rfl
theorem n_law_4 : Nm N_law (defScope s_law) 4 "whole" := ⟨rfl, by first | exact .inl rfl | exact .inr (.inl rfl), by decide, by decide⟩
theorem lo_law_4 : Loc (defScope s_law) "whole" := by first | exact .inl rfl | exact .inr rfl
theorem n_law_5 : Nm N_law (defScope s_law) 5 "numbers" := ⟨rfl, by first | exact .inl rfl | exact .inr (.inl rfl), by decide, by decide⟩
theorem lo_law_5 : Loc (defScope s_law) "numbers" := by first | exact .inl rfl | exact .inr rfl
theorem n_law_6 : Nm N_law (defScope s_law) 6 "same" := ⟨rfl, by first | exact .inl rfl | exact .inr (.inl rfl), by decide, by decide⟩
theorem lo_law_6 : Loc (defScope s_law) "same" := by first | exact .inl rfl | exact .inr rfl
theorem n_law_7 : Nm N_law (defScope s_law) 7 "own" := ⟨rfl, by first | exact .inl rfl | exact .inr (.inl rfl), by decide, by decide⟩
theorem lo_law_7 : Loc (defScope s_law) "own" := by first | exact .inl rfl | exact .inr rfl
theorem n_law_8 : Nm N_law (defScope s_law) 8 "n" := ⟨rfl, by first | exact .inl rfl | exact .inr (.inl rfl), by decide, by decide⟩
theorem lo_law_8 : Loc (defScope s_law) "n" := by first | exact .inl rfl | exact .inr rfl
def m_law (a : (List Int)) : Option Bool := match a with
  | script_ => (some (feed0 script_)).bind fun feed_1 => thenR (forM ((12 : Int) :: ((200 : Int) :: ((9999 : Int) :: ((40 : Int) :: []))) : List Int) (fun (x2 : Int) (s5 : Fd) => ((m_l_fraction s5 x2).bind fun t6 => ((m_l_right (t6.1.1, t6.1.2)).bind fun x8 => some (!x8)).bind fun k9 => if k9 then (some false).bind fun r => some (.inr r) else some (.inl t6.2) : Option (Sum Fd Bool))) feed_1) fun s5 => ((m_l_minus_drawn s5 ()).bind fun r12 => some (cutL r12.1 none (some (6 : Int)), r12.2)).bind fun numbers_10 => (catT numbers_10.1 (cutL numbers_10.1.reverse (some (1 : Int)) none)).bind fun same_13 => thenR (forM (numbers_10.1 :: ((cutL same_13 none (some (12 : Int))) :: ((cutL numbers_10.1 none (some (2 : Int))) :: (((2 : Int) :: ((2 : Int) :: ((2 : Int) :: [])) : List Int) :: []))) : List (List Int)) (fun (x14 : (List Int)) (s16 : Unit) => ((m_l_minus_worth x14).bind fun t17 => (VS.andM (some (decide (t17.1 ≤ (9999 : Int)))) ((m_l_right (t17.1, t17.2)).bind fun x18 => some (!x18))).bind fun k27 => if k27 then (some false).bind fun r => some (.inr r) else (VS.andM (some (decide (x14 = x14.reverse))) (VS.andM (some (decide (t17.1 ≤ (9999 : Int)))) ((((m_turned_fraction (t17.1, t17.2)).bind fun x19 => some (x19, (t17.1, t17.2))).bind fun x20 => m_l_pair x20).bind fun x21 => some (!x21)))).bind fun k26 => if k26 then (some false).bind fun r => some (.inr r) else ((((m_fraction_of x14).bind fun x22 => some (x22, (t17.1, t17.2))).bind fun x23 => m_l_pair x23).bind fun x24 => some (!x24)).bind fun k25 => if k25 then (some false).bind fun r => some (.inr r) else some (.inl ()) : Option (Sum Unit Bool))) ()) fun s16 => ((m_l_draw numbers_10.2 (300 : Int)).bind fun r32 => some (((2 : Int) + r32.1), r32.2)).bind fun n_28 => (VS.orM ((m_l_right (n_28.1, (1 : Int))).bind fun x33 => some (!x33)) ((m_l_right (n_28.1, (n_28.1 - (1 : Int)))).bind fun x34 => some (!x34))).bind fun k37 => if k37 then some false else VS.andM ((m_turned_fraction ((7 : Int), (5 : Int))).bind fun x35 => some (decide (x35 = ((7 : Int), (3 : Int))))) ((m_turned_fraction ((2 : Int), (1 : Int))).bind fun x36 => some (decide (x36 = ((2 : Int), (1 : Int)))))
abbrev T_law (P : Program) (w : World) (K : PySem.W.Frag) (mg : Str → Option Value) (base : Heap) : Prop := Gf P w K mg base 7 "law" ["script"] (spP K 1 (fun (a : (List Int)) => [(dL dI) a]) m_law dB)
theorem law_fn {f : Addr} {fdd : FuncData} (zs : Zs mg) (cs : Cs K mg) (F : Fun K "law" "law" s_law f fdd) (g_l_draw : T_l_draw P w K mg base) (g_l_feed : T_l_feed P w K mg base) (g_l_fraction : T_l_fraction P w K mg base) (g_l_minus_drawn : T_l_minus_drawn P w K mg base) (g_l_minus_worth : T_l_minus_worth P w K mg base) (g_l_pair : T_l_pair P w K mg base) (g_l_right : T_l_right P w K mg base) (g_fraction_of : T_fraction_of P w K mg base) (g_turned_fraction : T_turned_fraction P w K mg base) : FnOk P w K mg base CX0 7 f fdd ["script"] (spP K 1 (fun s : List Int => [dL dI s]) m_law dB) :=
  fn_pr F sc_law rfl (by decide) (fun _ => rfl) (fun cdv Ar outer s H E hr script_ => sr_ex ⟨_, sr_w [] [.val ((dL dI) script_), .un, .un, .un, .un, .un, .un, .un, .un] rfl <| sr_cons (n1_setN n_law_1 (f := encF) (pn_cg g_l_feed hr (by decide) rfl (par_one (nv n_law_0 (f := (dL dI)) (z := script_) rfl)) (fun _ => rfl) (fun _ => rfl)) (by show 1 < 9; decide) sc_law.nd lo_law_1) fun feed_1 => sr_w [] [.val ((dL dI) script_), .own (encF feed_1), .un, .un, .un, .un, .un, .un, .un] rfl <| sr_sv (E := fun (s5 : Fd) => [.val ((dL dI) script_), .own (encF s5), .un, .un, .un, .un, .un, .un, .un]) (s1_for (fx := dI) (s0 := feed_1) PassesOwn.never rfl (pit_new (f := dI) (pn_dis (f := dI) (pln_cons pv_int (pln_cons pv_int (pln_cons pv_int (pln_cons pv_int pln_nil)))))) (pg_name (i := 2) sc_law.nd rfl (by first | exact .inl rfl | exact .inr rfl)) (gv_name (i := 2)) rfl (fun x2 s5 => sv_w [] [.val ((dL dI) script_), .own (encF s5), .val (dI x2), .un, .un, .un, .un, .un, .un] rfl <| sv_c (n1_tupE (E := fun (fd7 : Fd) => [.val ((dL dI) script_), .own (encF fd7), .val (dI x2), .un, .un, .un, .un, .un, .un]) (f := (d2 dI dI)) (ev_cgF g_l_fraction hr (by decide) (by rfl) (feed_own (i := 1) fun _ => ⟨rfl, fun _ => rfl⟩) (fd0 := s5) rfl n_law_1 (ear_one (ev_pv (fd0 := s5) (nv n_law_2 (f := dI) (z := x2) rfl) rfl)) (fun _ => rfl) (fun _ => rfl)) (pg_tup rfl (pgs_cons (pg_name (i := 3) sc_law.nd rfl (by first | exact .inl rfl | exact .inr rfl)) (pgs_cons (pg_name (i := 4) sc_law.nd rfl (by first | exact .inl rfl | exact .inr rfl)) pgs_nil))) gv_2) fun t6 => sv_w [] [.val ((dL dI) script_), .own (encF t6.2), .val (dI x2), .val (dI t6.1.1), .val (dI t6.1.2), .un, .un, .un, .un] rfl <| sv_ifret (pt_not' (pt_v (pv_cg g_l_right hr (by decide) (by rfl) (par_cons (nv n_law_3 (f := dI) (z := t6.1.1) rfl) (par_one (nv n_law_4 (f := dI) (z := t6.1.2) rfl))) (fun _ => rfl) (fun _ => rfl)))) (sr_ret pv_bool) <| sv_n (sn_w [2, 3, 4] [.val ((dL dI) script_), .own (encF t6.2), .un, .un, .un, .un, .un, .un, .un] rfl <| sn_nil (s := t6.2) rfl)) (fun _ => rfl)) fun s5 => sr_w [] [.val ((dL dI) script_), .own (encF s5), .un, .un, .un, .un, .un, .un, .un] rfl <| sr_cons (n1_setE n_law_5 (E := fun (fd11 : Fd) => [.val ((dL dI) script_), .own (encF fd11), .un, .un, .un, .un, .un, .un, .un]) (f := (dL dI)) (ev_en (f := dI) (en_slice (f := dI) (ev_en (f := dI) (en_cgF g_l_minus_drawn hr (by decide) (by rfl) (feed_own (i := 1) fun _ => ⟨rfl, fun _ => rfl⟩) (fd0 := s5) rfl n_law_1 (ear_nil (fd0 := s5) rfl) (fun _ => rfl) (fun _ => rfl))) (fun _ => pop_none) (fun _ => (pop_some pv_int)))) sc_law.nd lo_law_5) fun numbers_10 => sr_w [] [.val ((dL dI) script_), .own (encF numbers_10.2), .un, .un, .un, .val ((dL dI) numbers_10.1), .un, .un, .un] rfl <| sr_cons (n1_set n_law_6 (f := (dL dI)) (pv_list (pn_op (on_cat (f1 := (aD (dL dI))) (f2 := (aD (dL dI))) (f := dI)) (nv n_law_5 (f := (dL dI)) (z := numbers_10.1) rfl) (pv_list (pn_slice (f1 := (aD (dL dI))) (f := dI) (pv_list (pn_rev (f1 := (aD (dL dI))) (f := dI) (nv n_law_5 (f := (dL dI)) (z := numbers_10.1) rfl))) (pop_some pv_int) pop_none)))) sc_law.nd lo_law_6) fun same_13 => sr_w [] [.val ((dL dI) script_), .own (encF numbers_10.2), .un, .un, .un, .val ((dL dI) numbers_10.1), .val ((dL dI) same_13), .un, .un] rfl <| sr_sv (E := fun (s16 : Unit) => [.val ((dL dI) script_), .own (encF numbers_10.2), .un, .un, .un, .val ((dL dI) numbers_10.1), .val ((dL dI) same_13), .un, .un]) (s1_for (fx := (dL dI)) (s0 := ()) PassesOwn.never rfl (pit_new (f := (dL dI)) (pn_dis (f := (dL dI)) (pln_cons (nv n_law_5 (f := (dL dI)) (z := numbers_10.1) rfl) (pln_cons (pv_list (pn_slice (f1 := (aD (dL dI))) (f := dI) (nv n_law_6 (f := (dL dI)) (z := same_13) rfl) pop_none (pop_some pv_int))) (pln_cons (pv_list (pn_slice (f1 := (aD (dL dI))) (f := dI) (nv n_law_5 (f := (dL dI)) (z := numbers_10.1) rfl) pop_none (pop_some pv_int))) (pln_cons (pv_list (pn_dis (f := dI) (pln_cons pv_int (pln_cons pv_int (pln_cons pv_int pln_nil))))) pln_nil)))))) (pg_name (i := 7) sc_law.nd rfl (by first | exact .inl rfl | exact .inr rfl)) (gv_name (i := 7)) rfl (fun x14 s16 => sv_w [] [.val ((dL dI) script_), .own (encF numbers_10.2), .un, .un, .un, .val ((dL dI) numbers_10.1), .val ((dL dI) same_13), .val ((dL dI) x14), .un] rfl <| sv_c (n1_tup (f := (d2 dI dI)) (pv_cg g_l_minus_worth hr (by decide) (by rfl) (par_one (nv n_law_7 (f := (dL dI)) (z := x14) rfl)) (fun _ => rfl) (fun _ => rfl)) (pg_tup rfl (pgs_cons (pg_name (i := 3) sc_law.nd rfl (by first | exact .inl rfl | exact .inr rfl)) (pgs_cons (pg_name (i := 4) sc_law.nd rfl (by first | exact .inl rfl | exact .inr rfl)) pgs_nil))) gv_2) fun t17 => sv_w [] [.val ((dL dI) script_), .own (encF numbers_10.2), .un, .val (dI t17.1), .val (dI t17.2), .val ((dL dI) numbers_10.1), .val ((dL dI) same_13), .val ((dL dI) x14), .un] rfl <| sv_ifret (PWe.pt (pw_a (pt_cmp' ov_le (nv n_law_3 (f := dI) (z := t17.1) rfl) pv_int (nomark _)) (pw_a1 (pt_not' (pt_v (pv_cg g_l_right hr (by decide) (by rfl) (par_cons (nv n_law_3 (f := dI) (z := t17.1) rfl) (par_one (nv n_law_4 (f := dI) (z := t17.2) rfl))) (fun _ => rfl) (fun _ => rfl))))))) (sr_ret pv_bool) <| sv_ifret (PWe.pt (pw_a (pt_cmp' (ov_eq (lw_list lw_int) hr.units) (nv n_law_7 (f := (dL dI)) (z := x14) rfl) (pv_list (pn_rev (f1 := (aD (dL dI))) (f := dI) (nv n_law_7 (f := (dL dI)) (z := x14) rfl))) (nomark _)) (pw_a (pt_cmp' ov_le (nv n_law_3 (f := dI) (z := t17.1) rfl) pv_int (nomark _)) (pw_a1 (pt_not' (pt_v (pv_cg g_l_pair hr (by decide) (by rfl) (par_cons (pv_cg g_turned_fraction hr (by decide) (by rfl) (par_cons (nv n_law_3 (f := dI) (z := t17.1) rfl) (par_one (nv n_law_4 (f := dI) (z := t17.2) rfl))) (fun _ => rfl) (fun _ => rfl)) (par_one (pv_tup2 (nv n_law_3 (f := dI) (z := t17.1) rfl) (nv n_law_4 (f := dI) (z := t17.2) rfl)))) (fun _ => rfl) (fun _ => rfl)))))))) (sr_ret pv_bool) <| sv_ifret (pt_not' (pt_v (pv_cg g_l_pair hr (by decide) (by rfl) (par_cons (pv_cg g_fraction_of hr (by decide) (by rfl) (par_one (pv_list (pn_callTy (cn_list (f1 := (aD (dL dI))) (f := dI)) (by rfl) zs.list_ b_list (par_one (nv n_law_7 (f := (dL dI)) (z := x14) rfl))))) (fun _ => rfl) (fun _ => rfl)) (par_one (pv_tup2 (nv n_law_3 (f := dI) (z := t17.1) rfl) (nv n_law_4 (f := dI) (z := t17.2) rfl)))) (fun _ => rfl) (fun _ => rfl)))) (sr_ret pv_bool) <| sv_n (sn_w [3, 4, 7] [.val ((dL dI) script_), .own (encF numbers_10.2), .un, .un, .un, .val ((dL dI) numbers_10.1), .val ((dL dI) same_13), .un, .un] rfl <| sn_nil (s := ()) rfl)) (fun _ => rfl)) fun s16 => sr_w [] [.val ((dL dI) script_), .own (encF numbers_10.2), .un, .un, .un, .val ((dL dI) numbers_10.1), .val ((dL dI) same_13), .un, .un] rfl <| sr_cons (n1_setE n_law_8 (E := fun (fd29 : Fd) => [.val ((dL dI) script_), .own (encF fd29), .un, .un, .un, .val ((dL dI) numbers_10.1), .val ((dL dI) same_13), .un, .un]) (f := dI) (ev_op ov_add (ev_pv (fd0 := numbers_10.2) pv_int rfl) fun s31 => (ev_cgF g_l_draw hr (by decide) (by rfl) (feed_own (i := 1) fun _ => ⟨rfl, fun _ => rfl⟩) (fd0 := s31) rfl n_law_1 (ear_one (ev_pv (fd0 := s31) pv_int rfl)) (fun _ => rfl) (fun _ => rfl))) sc_law.nd lo_law_8) fun n_28 => sr_w [] [.val ((dL dI) script_), .own (encF n_28.2), .un, .un, .un, .val ((dL dI) numbers_10.1), .val ((dL dI) same_13), .un, .val (dI n_28.1)] rfl <| sr_ifret (PWe.pt (pw_o (pt_not' (pt_v (pv_cg g_l_right hr (by decide) (by rfl) (par_cons (nv n_law_8 (f := dI) (z := n_28.1) rfl) (par_one pv_int)) (fun _ => rfl) (fun _ => rfl)))) (pw_o1 (pt_not' (pt_v (pv_cg g_l_right hr (by decide) (by rfl) (par_cons (nv n_law_8 (f := dI) (z := n_28.1) rfl) (par_one (pv_op ov_sub (nv n_law_8 (f := dI) (z := n_28.1) rfl) pv_int))) (fun _ => rfl) (fun _ => rfl))))))) (sr_ret pv_bool) <| sr_ret (pv_and (pv_cmp (ov_eq (lw_2 lw_int lw_int) hr.units) (pv_cg g_turned_fraction hr (by decide) (by rfl) (par_cons pv_int (par_one pv_int)) (fun _ => rfl) (fun _ => rfl)) (pv_tup2 pv_int pv_int) (nomark _)) (pv_one (pv_cmp (ov_eq (lw_2 lw_int lw_int) hr.units) (pv_cg g_turned_fraction hr (by decide) (by rfl) (par_cons pv_int (par_one pv_int)) (fun _ => rfl) (fun _ => rfl)) (pv_tup2 pv_int pv_int) (nomark _)))), by first | (unfold m_law; simp only [obs, addI_, subI_, eqT_, neT_, ltI_, leI_, gtI_, geI_, inT_, notInT_, noneT_, someT_, lenT_, sumT_, anyT_, allT_]; done) | rfl⟩)
end
theorem all_mk {P : Program} {w : World} {K : PySem.W.Frag} {h : Heap} {mg : Str → Option Value} {fa : Addr} (X : K.In h) (G : h.Ns mainGlobals mg) (hfa : mg "law" = some (.ref fa))
  {f0 f1 f2 f3 f4 f5 f6 f7 f8 f9 f10 f11 f12 f13 f14 f15 f16 f17 f18 : Addr} {od0 od1 od2 od3 od4 od5 od6 od7 od8 od9 od10 od11 od12 od13 od14 od15 od16 od17 od18 an0 an1 an2 an3 an4 an5 an6 an7 an8 an9 an10 an11 an12 an13 an14 an15 an16 an17 an18 : Option Addr} {sl0 sl1 sl2 sl3 sl4 sl5 sl6 sl7 sl8 sl9 sl10 sl11 sl12 sl13 sl14 sl15 sl16 sl17 sl18 : Array (Option Value)} {oc0 kV0 dc0 pm0 cd0 ct0 oc1 kV1 dc1 pm1 cd1 ct1 oc2 kV2 dc2 pm2 cd2 ct2 oc3 kV3 dc3 pm3 cd3 ct3 oc4 kV4 dc4 pm4 cd4 ct4 oc5 kV5 dc5 pm5 cd5 ct5 oc6 kV6 dc6 pm6 cd6 ct6 oc7 kV7 dc7 pm7 cd7 ct7 oc8 kV8 dc8 pm8 cd8 ct8 oc9 kV9 dc9 pm9 cd9 ct9 oc10 kV10 dc10 pm10 cd10 ct10 oc11 kV11 dc11 pm11 cd11 ct11 oc12 kV12 dc12 pm12 cd12 ct12 oc13 kV13 dc13 pm13 cd13 ct13 oc14 kV14 dc14 pm14 cd14 ct14 oc15 kV15 dc15 pm15 cd15 ct15 oc16 kV16 dc16 pm16 cd16 ct16 oc17 kV17 dc17 pm17 cd17 ct17 oc18 kV18 dc18 pm18 cd18 ct18 : Value} {tk_NOTHING_0 : Tok} {tk_NOTHING_1 : Tok} {tk_NOTHING_2 : Tok} {tk_NOTHING_3 : Tok} {cc_NOTHING : Addr} {co_NOTHING : Option Addr} {cn_NOTHING : Nat} {cs_NOTHING : Array (Option Value)}
  (a0 : PySem.W.nsIn K mainGlobals "_law_draw" = some (some (.ref f0))) (l0 : K.lookup f0 = some ⟨oc0, od0, .func (PySem.W.fnOf "_law_draw" "_law_draw" (defArgs s_l_draw) (defBody s_l_draw) (defScope s_l_draw) .none kV0 dc0 pm0 an0 cd0 ct0), sl0⟩) (q0 : PySem.W.codeIn K cd0 "_law_draw" = true) (k0 : PySem.W.keepIn K (.ref f0) = true)
  (a1 : PySem.W.nsIn K mainGlobals "_law_feed" = some (some (.ref f1))) (l1 : K.lookup f1 = some ⟨oc1, od1, .func (PySem.W.fnOf "_law_feed" "_law_feed" (defArgs s_l_feed) (defBody s_l_feed) (defScope s_l_feed) .none kV1 dc1 pm1 an1 cd1 ct1), sl1⟩) (q1 : PySem.W.codeIn K cd1 "_law_feed" = true) (k1 : PySem.W.keepIn K (.ref f1) = true)
  (a2 : PySem.W.nsIn K mainGlobals "_law_divisor" = some (some (.ref f2))) (l2 : K.lookup f2 = some ⟨oc2, od2, .func (PySem.W.fnOf "_law_divisor" "_law_divisor" (defArgs s_l_divisor) (defBody s_l_divisor) (defScope s_l_divisor) .none kV2 dc2 pm2 an2 cd2 ct2), sl2⟩) (q2 : PySem.W.codeIn K cd2 "_law_divisor" = true) (k2 : PySem.W.keepIn K (.ref f2) = true)
  (a3 : PySem.W.nsIn K mainGlobals "_law_fraction" = some (some (.ref f3))) (l3 : K.lookup f3 = some ⟨oc3, od3, .func (PySem.W.fnOf "_law_fraction" "_law_fraction" (defArgs s_l_fraction) (defBody s_l_fraction) (defScope s_l_fraction) .none kV3 dc3 pm3 an3 cd3 ct3), sl3⟩) (q3 : PySem.W.codeIn K cd3 "_law_fraction" = true) (k3 : PySem.W.keepIn K (.ref f3) = true)
  (a4 : PySem.W.nsIn K mainGlobals "_law_minus_drawn" = some (some (.ref f4))) (l4 : K.lookup f4 = some ⟨oc4, od4, .func (PySem.W.fnOf "_law_minus_drawn" "_law_minus_drawn" (defArgs s_l_minus_drawn) (defBody s_l_minus_drawn) (defScope s_l_minus_drawn) .none kV4 dc4 pm4 an4 cd4 ct4), sl4⟩) (q4 : PySem.W.codeIn K cd4 "_law_minus_drawn" = true) (k4 : PySem.W.keepIn K (.ref f4) = true)
  (a5 : PySem.W.nsIn K mainGlobals "_law_minus_worth" = some (some (.ref f5))) (l5 : K.lookup f5 = some ⟨oc5, od5, .func (PySem.W.fnOf "_law_minus_worth" "_law_minus_worth" (defArgs s_l_minus_worth) (defBody s_l_minus_worth) (defScope s_l_minus_worth) .none kV5 dc5 pm5 an5 cd5 ct5), sl5⟩) (q5 : PySem.W.codeIn K cd5 "_law_minus_worth" = true) (k5 : PySem.W.keepIn K (.ref f5) = true)
  (a6 : PySem.W.nsIn K mainGlobals "_law_whole" = some (some (.ref f6))) (l6 : K.lookup f6 = some ⟨oc6, od6, .func (PySem.W.fnOf "_law_whole" "_law_whole" (defArgs s_l_whole) (defBody s_l_whole) (defScope s_l_whole) .none kV6 dc6 pm6 an6 cd6 ct6), sl6⟩) (q6 : PySem.W.codeIn K cd6 "_law_whole" = true) (k6 : PySem.W.keepIn K (.ref f6) = true)
  (a7 : PySem.W.nsIn K mainGlobals "_law_pair" = some (some (.ref f7))) (l7 : K.lookup f7 = some ⟨oc7, od7, .func (PySem.W.fnOf "_law_pair" "_law_pair" (defArgs s_l_pair) (defBody s_l_pair) (defScope s_l_pair) .none kV7 dc7 pm7 an7 cd7 ct7), sl7⟩) (q7 : PySem.W.codeIn K cd7 "_law_pair" = true) (k7 : PySem.W.keepIn K (.ref f7) = true)
  (a8 : PySem.W.nsIn K mainGlobals "_law_list" = some (some (.ref f8))) (l8 : K.lookup f8 = some ⟨oc8, od8, .func (PySem.W.fnOf "_law_list" "_law_list" (defArgs s_l_list) (defBody s_l_list) (defScope s_l_list) .none kV8 dc8 pm8 an8 cd8 ct8), sl8⟩) (q8 : PySem.W.codeIn K cd8 "_law_list" = true) (k8 : PySem.W.keepIn K (.ref f8) = true)
  (a9 : PySem.W.nsIn K mainGlobals "_law_minus_list" = some (some (.ref f9))) (l9 : K.lookup f9 = some ⟨oc9, od9, .func (PySem.W.fnOf "_law_minus_list" "_law_minus_list" (defArgs s_l_minus_list) (defBody s_l_minus_list) (defScope s_l_minus_list) .none kV9 dc9 pm9 an9 cd9 ct9), sl9⟩) (q9 : PySem.W.codeIn K cd9 "_law_minus_list" = true) (k9 : PySem.W.keepIn K (.ref f9) = true)
  (a10 : PySem.W.nsIn K mainGlobals "rounded_up" = some (some (.ref f10))) (l10 : K.lookup f10 = some ⟨oc10, od10, .func (PySem.W.fnOf "rounded_up" "rounded_up" (defArgs s_rounded_up) (defBody s_rounded_up) (defScope s_rounded_up) .none kV10 dc10 pm10 an10 cd10 ct10), sl10⟩) (q10 : PySem.W.codeIn K cd10 "rounded_up" = true) (k10 : PySem.W.keepIn K (.ref f10) = true)
  (a11 : PySem.W.nsIn K mainGlobals "minus_list" = some (some (.ref f11))) (l11 : K.lookup f11 = some ⟨oc11, od11, .func (PySem.W.fnOf "minus_list" "minus_list" (defArgs s_minus_list) (defBody s_minus_list) (defScope s_minus_list) .none kV11 dc11 pm11 an11 cd11 ct11), sl11⟩) (q11 : PySem.W.codeIn K cd11 "minus_list" = true) (k11 : PySem.W.keepIn K (.ref f11) = true)
  (a12 : PySem.W.nsIn K mainGlobals "numbers_of" = some (some (.ref f12))) (l12 : K.lookup f12 = some ⟨oc12, od12, .func (PySem.W.fnOf "numbers_of" "numbers_of" (defArgs s_numbers_of) (defBody s_numbers_of) (defScope s_numbers_of) .none kV12 dc12 pm12 an12 cd12 ct12), sl12⟩) (q12 : PySem.W.codeIn K cd12 "numbers_of" = true) (k12 : PySem.W.keepIn K (.ref f12) = true)
  (a13 : PySem.W.nsIn K mainGlobals "multiplied" = some (some (.ref f13))) (l13 : K.lookup f13 = some ⟨oc13, od13, .func (PySem.W.fnOf "multiplied" "multiplied" (defArgs s_multiplied) (defBody s_multiplied) (defScope s_multiplied) .none kV13 dc13 pm13 an13 cd13 ct13), sl13⟩) (q13 : PySem.W.codeIn K cd13 "multiplied" = true) (k13 : PySem.W.keepIn K (.ref f13) = true)
  (a14 : PySem.W.nsIn K mainGlobals "turned_by" = some (some (.ref f14))) (l14 : K.lookup f14 = some ⟨oc14, od14, .func (PySem.W.fnOf "turned_by" "turned_by" (defArgs s_turned_by) (defBody s_turned_by) (defScope s_turned_by) .none kV14 dc14 pm14 an14 cd14 ct14), sl14⟩) (q14 : PySem.W.codeIn K cd14 "turned_by" = true) (k14 : PySem.W.keepIn K (.ref f14) = true)
  (a15 : PySem.W.nsIn K mainGlobals "fraction_of" = some (some (.ref f15))) (l15 : K.lookup f15 = some ⟨oc15, od15, .func (PySem.W.fnOf "fraction_of" "fraction_of" (defArgs s_fraction_of) (defBody s_fraction_of) (defScope s_fraction_of) .none kV15 dc15 pm15 an15 cd15 ct15), sl15⟩) (q15 : PySem.W.codeIn K cd15 "fraction_of" = true) (k15 : PySem.W.keepIn K (.ref f15) = true)
  (a16 : PySem.W.nsIn K mainGlobals "turned_fraction" = some (some (.ref f16))) (l16 : K.lookup f16 = some ⟨oc16, od16, .func (PySem.W.fnOf "turned_fraction" "turned_fraction" (defArgs s_turned_fraction) (defBody s_turned_fraction) (defScope s_turned_fraction) .none kV16 dc16 pm16 an16 cd16 ct16), sl16⟩) (q16 : PySem.W.codeIn K cd16 "turned_fraction" = true) (k16 : PySem.W.keepIn K (.ref f16) = true)
  (a17 : PySem.W.nsIn K mainGlobals "_law_right" = some (some (.ref f17))) (l17 : K.lookup f17 = some ⟨oc17, od17, .func (PySem.W.fnOf "_law_right" "_law_right" (defArgs s_l_right) (defBody s_l_right) (defScope s_l_right) .none kV17 dc17 pm17 an17 cd17 ct17), sl17⟩) (q17 : PySem.W.codeIn K cd17 "_law_right" = true) (k17 : PySem.W.keepIn K (.ref f17) = true)
  (a18 : PySem.W.nsIn K mainGlobals "law" = some (some (.ref f18))) (l18 : K.lookup f18 = some ⟨oc18, od18, .func (PySem.W.fnOf "law" "law" (defArgs s_law) (defBody s_law) (defScope s_law) .none kV18 dc18 pm18 an18 cd18 ct18), sl18⟩) (q18 : PySem.W.codeIn K cd18 "law" = true) (k18 : PySem.W.keepIn K (.ref f18) = true)
  (z0 : PySem.W.nsIn K mainGlobals "abs" = some none) (z1 : PySem.W.nsIn K mainGlobals "bool" = some none) (z2 : PySem.W.nsIn K mainGlobals "int" = some none) (z3 : PySem.W.nsIn K mainGlobals "isinstance" = some none) (z4 : PySem.W.nsIn K mainGlobals "len" = some none) (z5 : PySem.W.nsIn K mainGlobals "list" = some none) (z6 : PySem.W.nsIn K mainGlobals "range" = some none) (z7 : PySem.W.nsIn K mainGlobals "tuple" = some none) (y_NOTHING : PySem.W.nsIn K mainGlobals "NOTHING" = some (some (.ref cc_NOTHING))) (yl_NOTHING : K.lookup cc_NOTHING = some ⟨.type "tuple", co_NOTHING, .seq #[.int (1) tk_NOTHING_0, .int (0) tk_NOTHING_1, .int (0) tk_NOTHING_2, .int (1) tk_NOTHING_3] cn_NOTHING, cs_NOTHING⟩)
  : ∃ fd : FuncData, (∀ (s : Shared) (v : Value), BindsTo s fd ⟨[v], []⟩ [("script", v)]) ∧ ∀ base : Heap, K.In base → base.Ns mainGlobals mg → FnOk P w K mg base CX0 7 fa fd ["script"] (spP K 1 (fun s : List Int => [dL dI s]) m_law dB) := by
  have d0 : Df K mg "_law_draw" s_l_draw ["feed", "many"] := df_mk X G a0 l0 q0 k0 fun _ _ _ _ _ _ us hl => match us, hl with | [_, _], _ => rfl
  have d1 : Df K mg "_law_feed" s_l_feed ["script"] := df_mk X G a1 l1 q1 k1 fun _ _ _ _ _ _ us hl => match us, hl with | [_], _ => rfl
  have d2 : Df K mg "_law_divisor" s_l_divisor ["a", "b"] := df_mk X G a2 l2 q2 k2 fun _ _ _ _ _ _ us hl => match us, hl with | [_, _], _ => rfl
  have d3 : Df K mg "_law_fraction" s_l_fraction ["feed", "most"] := df_mk X G a3 l3 q3 k3 fun _ _ _ _ _ _ us hl => match us, hl with | [_, _], _ => rfl
  have d4 : Df K mg "_law_minus_drawn" s_l_minus_drawn ["feed"] := df_mk X G a4 l4 q4 k4 fun _ _ _ _ _ _ us hl => match us, hl with | [_], _ => rfl
  have d5 : Df K mg "_law_minus_worth" s_l_minus_worth ["numbers"] := df_mk X G a5 l5 q5 k5 fun _ _ _ _ _ _ us hl => match us, hl with | [_], _ => rfl
  have d6 : Df K mg "_law_whole" s_l_whole ["value"] := df_mk X G a6 l6 q6 k6 fun _ _ _ _ _ _ us hl => match us, hl with | [_], _ => rfl
  have d7 : Df K mg "_law_pair" s_l_pair ["told", "due"] := df_mk X G a7 l7 q7 k7 fun _ _ _ _ _ _ us hl => match us, hl with | [_, _], _ => rfl
  have d8 : Df K mg "_law_list" s_l_list ["told", "due"] := df_mk X G a8 l8 q8 k8 fun _ _ _ _ _ _ us hl => match us, hl with | [_, _], _ => rfl
  have d9 : Df K mg "_law_minus_list" s_l_minus_list ["part", "whole"] := df_mk X G a9 l9 q9 k9 fun _ _ _ _ _ _ us hl => match us, hl with | [_, _], _ => rfl
  have d10 : Df K mg "rounded_up" s_rounded_up ["part", "whole"] := df_mk X G a10 l10 q10 k10 fun _ _ _ _ _ _ us hl => match us, hl with | [_, _], _ => rfl
  have d11 : Df K mg "minus_list" s_minus_list ["part", "whole"] := df_mk X G a11 l11 q11 k11 fun _ _ _ _ _ _ us hl => match us, hl with | [_, _], _ => rfl
  have d12 : Df K mg "numbers_of" s_numbers_of ["part", "whole"] := df_mk X G a12 l12 q12 k12 fun _ _ _ _ _ _ us hl => match us, hl with | [_, _], _ => rfl
  have d13 : Df K mg "multiplied" s_multiplied ["one", "other"] := df_mk X G a13 l13 q13 k13 fun _ _ _ _ _ _ us hl => match us, hl with | [_, _], _ => rfl
  have d14 : Df K mg "turned_by" s_turned_by ["numbers"] := df_mk X G a14 l14 q14 k14 fun _ _ _ _ _ _ us hl => match us, hl with | [_], _ => rfl
  have d15 : Df K mg "fraction_of" s_fraction_of ["numbers"] := df_mk X G a15 l15 q15 k15 fun _ _ _ _ _ _ us hl => match us, hl with | [_], _ => rfl
  have d16 : Df K mg "turned_fraction" s_turned_fraction ["part", "whole"] := df_mk X G a16 l16 q16 k16 fun _ _ _ _ _ _ us hl => match us, hl with | [_, _], _ => rfl
  have d17 : Df K mg "_law_right" s_l_right ["part", "whole"] := df_mk X G a17 l17 q17 k17 fun _ _ _ _ _ _ us hl => match us, hl with | [_, _], _ => rfl
  have d18 : Df K mg "law" s_law ["script"] := df_mk X G a18 l18 q18 k18 fun _ _ _ _ _ _ us hl => match us, hl with | [_], _ => rfl
  have z : Zs mg := ⟨PySem.W.mg_none_of X G z0, PySem.W.mg_none_of X G z1, PySem.W.mg_none_of X G z2, PySem.W.mg_none_of X G z3, PySem.W.mg_none_of X G z4, PySem.W.mg_none_of X G z5, PySem.W.mg_none_of X G z6, PySem.W.mg_none_of X G z7⟩
  have c : Cs K mg := ⟨ct_tup X G y_NOTHING yl_NOTHING (by show 4 ≤ 1000; decide) (vals_int (vals_int (vals_int (vals_int .nil)))) (fun _ => (.cons (.int _) (.cons (.int _) (.cons (.int _) (.cons (.int _) .nil)))))⟩
  have e := hfa.symm.trans (PySem.W.mg_of X G a18)
  cases e
  refine ⟨PySem.W.fnOf "law" "law" (defArgs s_law) (defBody s_law) (defScope s_law) .none kV18 dc18 pm18 an18 cd18 ct18, fun s v => .of_eq rfl, fun base _ _ => ?_⟩
  have g_l_draw : T_l_draw P w K mg base := ok_l_draw z c d0 
  have g_l_feed : T_l_feed P w K mg base := ok_l_feed z c d1 
  have g_l_divisor : T_l_divisor P w K mg base := ok_l_divisor z c d2 
  have g_l_fraction : T_l_fraction P w K mg base := ok_l_fraction z c d3 g_l_divisor g_l_draw
  have g_l_minus_drawn : T_l_minus_drawn P w K mg base := ok_l_minus_drawn z c d4 g_l_draw
  have g_l_minus_worth : T_l_minus_worth P w K mg base := ok_l_minus_worth z c d5 
  have g_l_whole : T_l_whole P w K mg base := ok_l_whole z c d6 
  have g_l_pair : T_l_pair P w K mg base := ok_l_pair z c d7 g_l_whole
  have g_l_list : T_l_list P w K mg base := ok_l_list z c d8 g_l_whole
  have g_l_minus_list : T_l_minus_list P w K mg base := ok_l_minus_list z c d9 
  have g_rounded_up : T_rounded_up P w K mg base := ok_rounded_up z c d10 
  have g_minus_list : T_minus_list P w K mg base := ok_minus_list z c d11 g_rounded_up
  have g_numbers_of : T_numbers_of P w K mg base := ok_numbers_of z c d12 g_minus_list
  have g_multiplied : T_multiplied P w K mg base := ok_multiplied z c d13 
  have g_turned_by : T_turned_by P w K mg base := ok_turned_by z c d14 g_multiplied
  have g_fraction_of : T_fraction_of P w K mg base := ok_fraction_of z c d15 g_turned_by
  have g_turned_fraction : T_turned_fraction P w K mg base := ok_turned_fraction z c d16 g_fraction_of g_numbers_of
  have g_l_right : T_l_right P w K mg base := ok_l_right z c d17 g_l_list g_l_minus_list g_l_minus_worth g_l_pair g_numbers_of g_turned_fraction
  have F := fun_mk (st := s_law) l18 q18 k18
  exact law_fn z c F g_l_draw g_l_feed g_l_fraction g_l_minus_drawn g_l_minus_worth g_l_pair g_l_right g_fraction_of g_turned_fraction
abbrev M4 := Int × Int × Int × Int
def mul (a b : M4) : M4 := (a.1 * b.1 + a.2.1 * b.2.2.1, a.1 * b.2.1 + a.2.1 * b.2.2.2, a.2.2.1 * b.1 + a.2.2.2 * b.2.2.1, a.2.2.1 * b.2.1 + a.2.2.2 * b.2.2.2)
def step (n : Int) : M4 := (n, -1, 1, 0)
def prd : List Int → M4
  | [] => (1, 0, 0, 1)
  | n :: r => mul (step n) (prd r)
def det (a : M4) : Int := a.1 * a.2.2.2 - a.2.1 * a.2.2.1
def bd (k : Nat) (a : M4) : Prop := a.1.natAbs < 2 ^ k ∧ a.2.1.natAbs < 2 ^ k ∧ a.2.2.1.natAbs < 2 ^ k ∧ a.2.2.2.natAbs < 2 ^ k
theorem two_mul {x y z w : Int} {i j : Nat} (hx : x.natAbs < 2 ^ i) (hy : y.natAbs < 2 ^ j) (hz : z.natAbs < 2 ^ i) (hw : w.natAbs < 2 ^ j) : (x * y + z * w).natAbs < 2 ^ (i + j + 1) := by
  have h1 : (x * y).natAbs < 2 ^ (i + j) := by rw [Int.natAbs_mul, Nat.pow_add]; exact Nat.mul_lt_mul'' hx hy
  have h2 : (z * w).natAbs < 2 ^ (i + j) := by rw [Int.natAbs_mul, Nat.pow_add]; exact Nat.mul_lt_mul'' hz hw
  have h3 := Int.natAbs_add_le (x * y) (z * w)
  rw [Nat.pow_succ]
  omega
theorem bd_mul {i j : Nat} {a b : M4} (ha : bd i a) (hb : bd j b) : bd (i + j + 1) (mul a b) :=
  ⟨two_mul ha.1 hb.1 ha.2.1 hb.2.2.1, two_mul ha.1 hb.2.1 ha.2.1 hb.2.2.2, two_mul ha.2.2.1 hb.1 ha.2.2.2 hb.2.2.1, two_mul ha.2.2.1 hb.2.1 ha.2.2.2 hb.2.2.2⟩
theorem bd_mono {i j : Nat} {a : M4} (h : bd i a) (hij : i ≤ j) : bd j a := by
  have := Nat.pow_le_pow_right (show 0 < 2 by decide) hij
  exact ⟨by have := h.1; omega, by have := h.2.1; omega, by have := h.2.2.1; omega, by have := h.2.2.2; omega⟩
theorem multiplied_ok {i j : Nat} {a b : M4} (ha : bd i a) (hb : bd j b) (h : i + j ≤ 1000000) : m_multiplied (a, b) = some (mul a b) := by
  obtain ⟨a1, a2, a3, a4⟩ := a
  obtain ⟨b1, b2, b3, b4⟩ := b
  obtain ⟨ha1, ha2, ha3, ha4⟩ := ha
  obtain ⟨hb1, hb2, hb3, hb4⟩ := hb
  have q : ∀ {x y : Int}, x.natAbs < 2 ^ i → y.natAbs < 2 ^ j → mulI x y = some (x * y) := fun hx hy => mulI_ok i j hx hy h
  simp only [] at ha1 ha2 ha3 ha4 hb1 hb2 hb3 hb4
  simp only [m_multiplied, Option.bind_some, q ha1 hb1, q ha1 hb2, q ha2 hb3, q ha2 hb4, q ha3 hb1, q ha3 hb2, q ha4 hb3, q ha4 hb4, mul]
def fine (k : Nat) (xs : List Int) : Prop := ∀ n ∈ xs, n.natAbs < 2 ^ k
theorem step_bd {n : Int} (h : n.natAbs < 2 ^ 100) : bd 100 (step n) := ⟨h, by show (1 : Nat) < 2 ^ 100; decide, by show (1 : Nat) < 2 ^ 100; decide, by show (0 : Nat) < 2 ^ 100; decide⟩
theorem mul_assoc' (a b c : M4) : mul (mul a b) c = mul a (mul b c) := by
  simp only [mul, Prod.mk.injEq]
  refine ⟨?_, ?_, ?_, ?_⟩ <;> grind
theorem mul_one' (a : M4) : mul a (1, 0, 0, 1) = a := by simp [mul]
theorem one_mul' (a : M4) : mul (1, 0, 0, 1) a = a := by simp [mul]
theorem prd_app (xs ys : List Int) : prd (xs ++ ys) = mul (prd xs) (prd ys) := by
  induction xs with
  | nil => exact (one_mul' _).symm
  | cons n r ih => rw [List.cons_append, prd, prd, ih, mul_assoc']
theorem det_mul (a b : M4) : det (mul a b) = det a * det b := by simp only [det, mul]; grind
theorem det_prd (xs : List Int) : det (prd xs) = 1 := by
  induction xs with
  | nil => rfl
  | cons n r ih => rw [prd, det_mul, ih]; simp [det, step]
theorem turn_loop {body : Int → M4 → Option M4} (hb : ∀ n (s : M4), body n s = (m_multiplied (s, step n))) : ∀ (xs : List Int) (k : Nat) (s : M4), bd k s → fine 100 xs → k + 101 * xs.length ≤ 100000 → forN xs body s = some (mul s (prd xs))
  | [], k, s, _, _, _ => by rw [prd, mul_one']; rfl
  | n :: r, k, s, hs, hf, hk => by
    have hn := step_bd (hf n List.mem_cons_self)
    rw [List.length_cons] at hk
    show (body n s).bind (fun s => forN r body s) = _
    rw [hb, multiplied_ok hs hn (by omega)]
    show forN r body (mul s (step n)) = _
    rw [turn_loop hb r (k + 101) _ (bd_mul hs hn) (fun m hm => hf m (List.mem_cons_of_mem _ hm)) (by omega), prd, mul_assoc']
theorem one_bd : bd 1 (1, 0, 0, 1) := ⟨by decide, by decide, by decide, by decide⟩
theorem turned_ok {xs : List Int} (hf : fine 100 xs) (hl : xs.length ≤ 900) : m_turned_by xs = some (prd xs) := by
  unfold m_turned_by
  show ((forN xs _ c_NOTHING).bind fun s => some s) = _
  rw [turn_loop (fun n s => by show (m_multiplied (s, step n)).bind some = _; cases m_multiplied (s, step n) <;> rfl) xs 1 c_NOTHING one_bd hf (by omega)]
  rw [show c_NOTHING = ((1, 0, 0, 1) : M4) from rfl, one_mul']
  rfl
theorem prd_bd : ∀ (xs : List Int), fine 100 xs → bd (1 + 101 * xs.length) (prd xs)
  | [], _ => one_bd
  | n :: r, hf => by
    have h1 := bd_mul (step_bd (hf n List.mem_cons_self)) (prd_bd r fun m hm => hf m (List.mem_cons_of_mem _ hm))
    rw [List.length_cons]
    exact bd_mono h1 (by omega)
def fold2 (x y : Int) : List Int → Int × Int
  | [] => (x, y)
  | n :: r => (n * (fold2 x y r).1 - (fold2 x y r).2, (fold2 x y r).1)
theorem fold2_prd (xs : List Int) : prd xs = ((fold2 1 0 xs).1, (fold2 0 1 xs).1, (fold2 1 0 xs).2, (fold2 0 1 xs).2) := by
  induction xs with
  | nil => rfl
  | cons n r ih => rw [prd, ih]; simp [fold2, mul, step]; exact ⟨by omega, by omega⟩
theorem fold2_bd {x y : Int} (hx : x.natAbs < 2) (hy : y.natAbs < 2) : ∀ (xs : List Int), fine 100 xs → (fold2 x y xs).1.natAbs < 2 ^ (1 + 101 * xs.length) ∧ (fold2 x y xs).2.natAbs < 2 ^ (1 + 101 * xs.length)
  | [], _ => ⟨hx, hy⟩
  | n :: r, hf => by
    have ih := fold2_bd hx hy r fun m hm => hf m (List.mem_cons_of_mem _ hm)
    have h1 := two_mul (hf n List.mem_cons_self) ih.1 (show (-1 : Int).natAbs < 2 ^ 100 by decide) ih.2
    rw [List.length_cons]
    have h2 := Nat.pow_le_pow_right (show 0 < 2 by decide) (show 100 + (1 + 101 * r.length) + 1 ≤ 1 + 101 * (r.length + 1) by omega)
    have h3 := Nat.pow_le_pow_right (show 0 < 2 by decide) (show 1 + 101 * r.length ≤ 1 + 101 * (r.length + 1) by omega)
    refine ⟨?_, Nat.lt_of_lt_of_le ih.1 h3⟩
    show (n * (fold2 x y r).1 - (fold2 x y r).2).natAbs < _
    rw [show n * (fold2 x y r).1 - (fold2 x y r).2 = n * (fold2 x y r).1 + (-1) * (fold2 x y r).2 by omega]
    exact Nat.lt_of_lt_of_le h1 h2

/-! the list with minus -/
def K2 (xs : List Int) : Int × Int := fold2 1 0 xs
def big2 (xs : List Int) : Prop := ∀ n ∈ xs, 2 ≤ n
theorem K2_pos : ∀ {xs : List Int}, big2 xs → xs ≠ [] → 1 ≤ (K2 xs).2 ∧ (K2 xs).2 < (K2 xs).1
  | [], _, h => absurd rfl h
  | [n], hb, _ => by
    have := hb n List.mem_cons_self
    show 1 ≤ (1 : Int) ∧ (1 : Int) < n * 1 - 0
    omega
  | n :: m :: r, hb, _ => by
    have ih := K2_pos (xs := m :: r) (fun x hx => hb x (List.mem_cons_of_mem _ hx)) (by simp)
    have hn := hb n List.mem_cons_self
    show 1 ≤ (K2 (m :: r)).1 ∧ (K2 (m :: r)).1 < n * (K2 (m :: r)).1 - (K2 (m :: r)).2
    have := Int.mul_le_mul_of_nonneg_right hn (show 0 ≤ (K2 (m :: r)).1 by omega)
    omega
theorem K2_cop : ∀ xs : List Int, cop (K2 xs).1 (K2 xs).2
  | [] => ⟨1, 0, rfl⟩
  | n :: r => by
    obtain ⟨u, v, e⟩ := K2_cop r
    exact ⟨-v, u + n * v, by show (n * (K2 r).1 - (K2 r).2) * -v + (K2 r).1 * (u + n * v) = 1; grind⟩
def up (p w : Int) : Int := -((-p) / w)
def ml : Nat → Int → Int → List Int
  | 0, _, _ => []
  | k + 1, p, w => if w = 0 then [] else up p w :: ml k w (up p w * w - p)
theorem up_bd {p w : Int} (hw : 0 < w) : p ≤ up p w * w ∧ up p w * w < p + w := by
  have h1 := Int.mul_ediv_add_emod (-p) w
  have h2 := Int.emod_nonneg (-p) (by omega : w ≠ 0)
  have h3 := Int.emod_lt_of_pos (-p) hw
  unfold up
  have e : -(-p / w) * w = -(w * (-p / w)) := by rw [Int.neg_mul, Int.mul_comm]
  omega
theorem up_uniq {p w n : Int} (hw : 0 < w) (h1 : p ≤ n * w) (h2 : n * w < p + w) : up p w = n := by
  obtain ⟨a, b⟩ := up_bd (p := p) hw
  have e : (up p w - n) * w = up p w * w - n * w := Int.sub_mul _ _ _
  have := mul_small (w := w) (k := up p w - n) hw (by rw [Int.mul_comm]; omega) (by rw [Int.mul_comm]; omega)
  omega
theorem up_alt {p w : Int} (hw : 0 < w) : (p + w - 1) / w = up p w := by
  symm
  have h1 := Int.mul_ediv_add_emod (p + w - 1) w
  have h2 := Int.emod_nonneg (p + w - 1) (by omega : w ≠ 0)
  have h3 := Int.emod_lt_of_pos (p + w - 1) hw
  have e : (p + w - 1) / w * w = w * ((p + w - 1) / w) := Int.mul_comm _ _
  exact up_uniq hw (by omega) (by omega)
/-- the list of a fraction above 1: its numbers, its worth -/
theorem ml_ok : ∀ (k : Nat) {p w : Int}, 1 ≤ w → w < p → w ≤ k → cop p w → big2 (ml k p w) ∧ ml k p w ≠ [] ∧ K2 (ml k p w) = (p, w) ∧ ((ml k p w).length : Int) ≤ w
  | 0, p, w, h1, _, h3, _ => absurd h3 (by omega)
  | k + 1, p, w, h1, h2, h3, hc => by
    obtain ⟨a, b⟩ := up_bd (p := p) (show 0 < w by omega)
    have n2 : 2 ≤ up p w := by
      rcases Int.lt_or_le 1 (up p w) with z | z
      · omega
      · have := Int.mul_le_mul_of_nonneg_right z (show 0 ≤ w by omega)
        omega
    have em : ml (k + 1) p w = up p w :: ml k w (up p w * w - p) := by
      show (if w = 0 then _ else _) = _
      rw [if_neg (by omega)]
    rw [em]
    generalize hn : up p w = n at *
    have hc' : cop w (n * w - p) := by
      obtain ⟨u, v, e⟩ := hc
      exact ⟨v + n * u, -u, by grind⟩
    by_cases z : n * w - p = 0
    · rw [z]
      have e0 : ml k w 0 = [] := by cases k <;> rfl
      rw [e0]
      have w1 : w = 1 := by
        obtain ⟨u, v, e⟩ := hc'
        rw [z, Int.zero_mul, Int.add_zero] at e
        exact Int.eq_one_of_mul_eq_one_right (by omega) e
      refine ⟨fun x hx => by rw [List.mem_singleton.mp hx]; exact n2, by simp, ?_, by show ((1 : Nat) : Int) ≤ w; omega⟩
      show (n * 1 - 0, (1 : Int)) = _
      rw [w1, Int.mul_one] at z
      rw [w1, show n * 1 - 0 = p by omega]
    · obtain ⟨i1, i2, i3, i4⟩ := ml_ok k (p := w) (w := n * w - p) (by omega) (by omega) (by omega) hc'
      refine ⟨fun x hx => ?_, by simp, ?_, by rw [List.length_cons]; omega⟩
      · rcases List.mem_cons.mp hx with rfl | hx
        · exact n2
        · exact i1 x hx
      · show (n * (K2 (ml k w (n * w - p))).1 - (K2 (ml k w (n * w - p))).2, (K2 (ml k w (n * w - p))).1) = _
        rw [i3]
        show (n * w - (n * w - p), w) = _
        rw [show n * w - (n * w - p) = p by omega]
/-- and back -/
theorem ml_K2 : ∀ (k : Nat) {xs : List Int}, big2 xs → xs ≠ [] → (K2 xs).2 ≤ k → ml k (K2 xs).1 (K2 xs).2 = xs
  | 0, xs, hb, hn, h => by have := K2_pos hb hn; omega
  | k + 1, [], _, h, _ => absurd rfl h
  | k + 1, [n], hb, _, h => by
    have hn := hb n List.mem_cons_self
    show (if (1 : Int) = 0 then _ else up (n * 1 - 0) 1 :: ml k 1 (up (n * 1 - 0) 1 * 1 - (n * 1 - 0))) = _
    rw [if_neg (by decide), up_uniq (n := n) (by decide) (by omega) (by omega), show n * 1 - (n * 1 - 0) = 0 by omega]
    cases k <;> rfl
  | k + 1, n :: m :: r, hb, _, h => by
    have hb' : big2 (m :: r) := fun x hx => hb x (List.mem_cons_of_mem _ hx)
    obtain ⟨p1, p2⟩ := K2_pos (xs := m :: r) hb' (by simp)
    have h' : (K2 (m :: r)).1 ≤ (k : Int) + 1 := h
    have ih := ml_K2 k (xs := m :: r) hb' (by simp) (by omega)
    show (if (K2 (m :: r)).1 = 0 then _ else up (n * (K2 (m :: r)).1 - (K2 (m :: r)).2) (K2 (m :: r)).1 :: ml k (K2 (m :: r)).1 (up (n * (K2 (m :: r)).1 - (K2 (m :: r)).2) (K2 (m :: r)).1 * (K2 (m :: r)).1 - (n * (K2 (m :: r)).1 - (K2 (m :: r)).2))) = _
    generalize K2 (m :: r) = q at *
    rw [if_neg (by omega), up_uniq (n := n) (by omega) (by omega) (by omega), show n * q.1 - (n * q.1 - q.2) = q.2 by omega, ih]
theorem s60 {x : Int} (h0 : -100000000 ≤ x) (h1 : x ≤ 100000000) : x.natAbs < 2 ^ 60 := Nat.lt_trans (show x.natAbs < 2 ^ 28 by omega) (by decide)
theorem up_le {p w : Int} (hw : 1 ≤ w) (hp : 1 ≤ p) : 1 ≤ up p w ∧ up p w ≤ p + w := by
  obtain ⟨a, b⟩ := up_bd (p := p) (show 0 < w by omega)
  have h1 : 1 ≤ up p w := by
    rcases Int.lt_or_le 0 (up p w) with z | z
    · omega
    · have := Int.mul_le_mul_of_nonneg_right z (show 0 ≤ w by omega)
      omega
  have h2 : up p w * 1 ≤ up p w * w := Int.mul_le_mul_of_nonneg_left hw (by omega)
  omega
theorem rounded_ok {p w : Int} (hw : 1 ≤ w) (hw1 : w ≤ 20000) : m_rounded_up (p, w) = some (up p w) := by
  show (divI (-p) w).bind _ = _
  rw [div_sm (by omega) (s60 (by omega) (by omega))]
  rfl
theorem ml_zero (k : Nat) (p : Int) : ml k p 0 = [] := by cases k <;> rfl
theorem appT_big {α : Type} {xs : List α} {y : α} (h : xs.length < 1000000) : appT xs y = some (xs ++ [y]) := by
  unfold appT
  rw [if_pos (Nat.lt_of_lt_of_le h (size_ok (by decide)))]
theorem ml_step {k : Nat} {p w : Int} (hw : 1 ≤ w) (hk : w ≤ k) : ∃ j : Nat, k = j + 1 ∧ ml k p w = up p w :: ml j w (up p w * w - p) ∧ 0 ≤ up p w * w - p ∧ up p w * w - p ≤ j := by
  obtain ⟨j, rfl⟩ : ∃ j, k = j + 1 := ⟨k - 1, by omega⟩
  obtain ⟨a, b⟩ := up_bd (p := p) (show 0 < w by omega)
  refine ⟨j, rfl, ?_, by omega, by omega⟩
  show (if w = 0 then _ else _) = _
  rw [if_neg (by omega)]
theorem minus_ok {p w : Int} (h1 : 1 ≤ w) (h2 : w < p) (h3 : p ≤ 10000) {k : Nat} (hk : w ≤ k) : m_minus_list (p, w) = some (ml k p w) := by
  refine Ok.eq ?_
  unfold m_minus_list
  simp only [obs]
  refine (ok_whileN (I := fun s : Int × Int × List Int => 0 ≤ s.2.1 ∧ s.2.1 < s.1 ∧ s.1 ≤ 10000 ∧ (s.2.2.length : Int) + s.2.1 ≤ 10000 ∧ ∃ j : Nat, s.2.1 ≤ j ∧ s.2.2 ++ ml j s.1 s.2.1 = ml k p w) (μ := fun s => s.2.1.toNat) ⟨by show 0 ≤ w; omega, h2, h3, by show ((0 : Nat) : Int) + w ≤ _; omega, k, hk, rfl⟩ (by show w.toNat < _; omega) fun s hs => .of fun hk => ?_).bind fun s hs => ?_
  · obtain ⟨g1, g2, g3, g4, j, g5, g6⟩ := hs
    have g0 : 1 ≤ s.2.1 := by
      have : s.2.1 ≠ 0 := by simpa using hk
      omega
    obtain ⟨i, rfl, e1, e2, e3⟩ := ml_step (p := s.1) g0 g5
    obtain ⟨a, b⟩ := up_bd (p := s.1) (show 0 < s.2.1 by omega)
    obtain ⟨u1, u2⟩ := up_le (p := s.1) g0 (by omega)
    rw [rounded_ok g0 (by omega), obs, appT_big (by omega), obs, mul_sm (s60 (by omega) (by omega)) (s60 (by omega) (by omega))]
    simp only [obs]
    refine .of ⟨⟨e2, by show up s.1 s.2.1 * s.2.1 - s.1 < s.2.1; omega, by show s.2.1 ≤ _; omega, by show ((s.2.2 ++ [up s.1 s.2.1]).length : Int) + (up s.1 s.2.1 * s.2.1 - s.1) ≤ _; rw [List.length_append, List.length_singleton]; omega, i, e3, ?_⟩, by show (up s.1 s.2.1 * s.2.1 - s.1).toNat < s.2.1.toNat; omega⟩
    rw [← g6, e1]
    show (s.2.2 ++ [up s.1 s.2.1]) ++ ml i s.2.1 (up s.1 s.2.1 * s.2.1 - s.1) = _
    rw [List.append_assoc]
    rfl
  · obtain ⟨⟨g1, g2, g3, g4, j, g5, g6⟩, hf⟩ := hs
    have g0 : s.2.1 = 0 := by simpa using hf
    rw [g0, ml_zero, List.append_nil] at g6
    exact .of g6
theorem ok_forM_ret {γ S R : Type} {Q : R → Prop} {mb : γ → S → Option (Sum S R)} : ∀ {its : List γ} {I : Nat → S → Prop} {s : S}, (∀ k x s, its[k]? = some x → I k s → Ok (mb x s) (fun z => (∃ s', z = .inl s' ∧ I (k + 1) s') ∨ ∃ r, z = .inr r ∧ Q r)) → I 0 s → Ok (VS.forM its mb s) (fun z => (∃ s', z = .inl s' ∧ I its.length s') ∨ ∃ r, z = .inr r ∧ Q r)
  | [], I, s, _, h => ⟨.inl s, rfl, .inl ⟨s, rfl, h⟩⟩
  | x :: r, I, s, hs, h => by
    obtain ⟨z, e, hz⟩ := hs 0 x s rfl h
    show Ok (sq (mb x s) fun s' => VS.forM r mb s') _
    rw [e]
    rcases hz with ⟨s', rfl, h'⟩ | ⟨q, rfl, h'⟩
    · exact ok_forM_ret (its := r) (I := fun k => I (k + 1)) (fun k x s hx hi => hs (k + 1) x s hx hi) h'
    · exact ⟨_, rfl, .inr ⟨q, rfl, h'⟩⟩
theorem ok_thenR_ret {S R : Type} {m : Option (Sum S R)} {k : S → Option R} {P : S → Prop} {Q : R → Prop} (h : Ok m (fun z => (∃ s, z = .inl s ∧ P s) ∨ ∃ r, z = .inr r ∧ Q r)) (hk : ∀ s, P s → Ok (k s) Q) : Ok (thenR m k) Q := by
  obtain ⟨z, rfl, hz⟩ := h
  rcases hz with ⟨s, rfl, p⟩ | ⟨r, rfl, q⟩
  · exact hk s p
  · exact ⟨r, rfl, q⟩
theorem lminus_ok {p w : Int} (h1 : 1 ≤ w) (h2 : w < p) (h3 : p ≤ 10000) {k : Nat} (hk : w ≤ k) : m_l_minus_list (p, w) = some (ml k p w) := by
  refine Ok.eq ?_
  unfold m_l_minus_list
  simp only [obs]
  rw [range1_ok (by decide), obs]
  refine ok_thenR_ret (P := fun s : Int × Int × List Int => s.2.2 = ml k p w) ?_ fun s hs => .of hs
  refine (ok_forM_ret (I := fun (t : Nat) (s : Int × Int × List Int) => 0 ≤ s.2.1 ∧ s.2.1 < s.1 ∧ s.1 ≤ 10000 ∧ (s.2.1 = 0 ∨ s.2.1 + t ≤ 10000) ∧ (s.2.2.length : Int) + s.2.1 ≤ 10000 ∧ ∃ j : Nat, s.2.1 ≤ j ∧ s.2.2 ++ ml j s.1 s.2.1 = ml k p w) (Q := fun r => r = ml k p w) (fun t x s hx hs => ?_) ⟨by show 0 ≤ w; omega, h2, h3, .inr (by show w + ((0 : Nat) : Int) ≤ _; omega), by show ((0 : Nat) : Int) + w ≤ _; omega, k, hk, rfl⟩).mono fun z hz => ?_
  · obtain ⟨g1, g2, g3, g4, g4', j, g5, g6⟩ := hs
    by_cases g0 : s.2.1 = 0
    · rw [decide_eq_true g0]
      refine .of (.inr ⟨_, rfl, ?_⟩)
      rw [g0, ml_zero, List.append_nil] at g6
      exact g6
    · rw [decide_eq_false g0, if_neg Bool.false_ne_true]
      obtain ⟨i, rfl, e1, e2, e3⟩ := ml_step (p := s.1) (show 1 ≤ s.2.1 by omega) g5
      obtain ⟨a, b⟩ := up_bd (p := s.1) (show 0 < s.2.1 by omega)
      obtain ⟨u1, u2⟩ := up_le (p := s.1) (show 1 ≤ s.2.1 by omega) (by omega)
      rw [div_sm (by omega) (s60 (by omega) (by omega)), obs, up_alt (by omega), appT_big (by omega), obs, mul_sm (s60 (by omega) (by omega)) (s60 (by omega) (by omega))]
      simp only [obs]
      refine .of (.inl ⟨_, rfl, e2, by show up s.1 s.2.1 * s.2.1 - s.1 < s.2.1; omega, by show s.2.1 ≤ _; omega, .inr (by show up s.1 s.2.1 * s.2.1 - s.1 + ((t + 1 : Nat) : Int) ≤ _; omega), by show ((s.2.2 ++ [up s.1 s.2.1]).length : Int) + (up s.1 s.2.1 * s.2.1 - s.1) ≤ _; rw [List.length_append, List.length_singleton]; omega, i, e3, ?_⟩)
      rw [← g6, e1]
      show (s.2.2 ++ [up s.1 s.2.1]) ++ ml i s.2.1 (up s.1 s.2.1 * s.2.1 - s.1) = _
      rw [List.append_assoc]
      rfl
  · rcases hz with ⟨s, rfl, g1, g2, g3, g4, g4', j, g5, g6⟩ | ⟨r, rfl, hr⟩
    · refine .inl ⟨s, rfl, ?_⟩
      rw [rngL_length] at g4
      have g0 : s.2.1 = 0 := by
        rcases g4 with g | g
        · exact g
        · have : ((10000 : Int).toNat : Int) = 10000 := by decide
          omega
      rw [g0, ml_zero, List.append_nil] at g6
      exact g6
    · exact .inr ⟨r, rfl, hr⟩
theorem whole_ok (x : Int) : m_l_whole x = some true := by
  unfold m_l_whole
  simp only [isi_iI, isi_bI, obs, VS.andM, if_true, Bool.not_false]
theorem list_ok {xs : List Int} (h : xs.length ≤ 100000) : m_l_list (xs, xs) = some true := by
  unfold m_l_list
  have e0 : isiD "list" ((aD (dL dI)) xs).dat = some true := isi_list_list _
  simp only [e0, obs, Bool.not_true, VS.orM, Bool.false_eq_true, if_false, decide_true]
  rw [range1_ok (by omega), obs, forM_all fun x hx => ?_]
  · rfl
  · obtain ⟨a, b⟩ := rngL_mem hx
    rw [atI_ok (k := x) (xs := xs) (by omega) (by omega)]
    simp only [obs, whole_ok, Bool.not_true, VS.orM, Bool.false_eq_true, if_false, decide_true]
theorem pair_ok (a : Int × Int) : m_l_pair (a, a) = some true := by
  unfold m_l_pair
  simp only [isi_t2, obs, Bool.not_true, VS.orM, Bool.false_eq_true, if_false, len2, decide_true, whole_ok]
/-! the divisor, in 200 turns -/
theorem div_ok {p w : Int} (hw : 0 < w) (hp : w ≤ p) (hp1 : p < 2 ^ 80) : Ok (m_l_divisor (p, w)) (fun g => 0 < g ∧ g ≤ p ∧ ∃ a c, p = g * a ∧ w = g * c ∧ cop a c) := by
  unfold m_l_divisor
  simp only []
  rw [range1_ok (by decide), obs]
  refine ok_thenR_ret (P := fun s : Int × Int => s.2 = 0 ∧ 0 < s.1 ∧ s.1 ≤ p ∧ ∃ a c, p = s.1 * a ∧ w = s.1 * c ∧ cop a c) ?_ fun s hs => .of hs.2
  have fin : ∀ s : Int × Int, s.2 = 0 → 0 < s.1 → s.1 ≤ p → (∃ u v, s.1 = p * u + w * v) → (∃ a b, p = s.1 * a + s.2 * b) → (∃ a b, w = s.1 * a + s.2 * b) → ∃ a c, p = s.1 * a ∧ w = s.1 * c ∧ cop a c := fun s h0 h1 _ ⟨u, v, e1⟩ ⟨a, b, e2⟩ ⟨c, d, e3⟩ => by
    rw [h0] at e2 e3
    refine ⟨a, c, by grind, by grind, u, v, ?_⟩
    have : s.1 * (a * u + c * v) = s.1 * 1 := by grind
    exact Int.eq_of_mul_eq_mul_left (by omega) this
  refine (ok_forM_ret (I := fun (t : Nat) (s : Int × Int) => 0 < s.1 ∧ 0 ≤ s.2 ∧ s.2 ≤ s.1 ∧ s.1 ≤ p ∧ (s.1 * s.2).toNat < 2 ^ (160 - t) ∧ (∃ u v, s.1 = p * u + w * v) ∧ (∃ u v, s.2 = p * u + w * v) ∧ (∃ a b, p = s.1 * a + s.2 * b) ∧ (∃ a b, w = s.1 * a + s.2 * b)) (Q := fun g => 0 < g ∧ g ≤ p ∧ ∃ a c, p = g * a ∧ w = g * c ∧ cop a c) (fun t x s hx hs => ?_) ⟨by omega, by show 0 ≤ w; omega, hp, Int.le_refl _, ?_, ⟨1, 0, by show p = _; omega⟩, ⟨0, 1, by show w = _; omega⟩, ⟨1, 0, by show p = p * 1 + w * 0; omega⟩, ⟨0, 1, by show w = p * 0 + w * 1; omega⟩⟩).mono fun z hz => ?_
  · obtain ⟨h1, h2, h3, h4, h5, ⟨u, v, e1⟩, ⟨u2, v2, e1'⟩, ⟨a, b, e2⟩, ⟨c, d, e3⟩⟩ := hs
    by_cases g0 : s.2 = 0
    · rw [decide_eq_true g0]
      exact .of (.inr ⟨_, rfl, h1, h4, fin s g0 h1 h4 ⟨u, v, e1⟩ ⟨a, b, e2⟩ ⟨c, d, e3⟩⟩)
    · rw [decide_eq_false g0, if_neg Bool.false_ne_true]
      have hpos : 0 < s.2 := by omega
      rw [modI_ok hpos]
      have q1 := Int.emod_nonneg s.1 g0
      have q2 := Int.emod_lt_of_pos s.1 hpos
      have q3 := Int.mul_ediv_add_emod s.1 s.2
      have q4 : 1 ≤ s.1 / s.2 := by
        rcases Int.lt_or_le 0 (s.1 / s.2) with z | z
        · omega
        · have := Int.mul_le_mul_of_nonneg_left z h2
          rw [Int.mul_zero] at this
          omega
      generalize s.1 % s.2 = r at q1 q2 q3
      generalize s.1 / s.2 = k at q3 q4
      simp only [obs]
      refine .of (.inl ⟨_, rfl, hpos, q1, by show r ≤ s.2; omega, by show s.2 ≤ p; omega, ?_, ⟨u2, v2, e1'⟩, ⟨u - k * u2, v - k * v2, ?_⟩, ⟨a * k + b, a, ?_⟩, ⟨c * k + d, c, ?_⟩⟩)
      · show (s.2 * r).toNat < 2 ^ (160 - (t + 1))
        have m1 : s.2 * 1 ≤ s.2 * k := Int.mul_le_mul_of_nonneg_left q4 h2
        have m2 : s.2 * (2 * r) ≤ s.2 * s.1 := Int.mul_le_mul_of_nonneg_left (by omega) h2
        have m3 : 0 ≤ s.2 * r := Int.mul_nonneg h2 q1
        have m4 : s.2 * (2 * r) = 2 * (s.2 * r) := by grind
        have m5 : s.2 * s.1 = s.1 * s.2 := Int.mul_comm _ _
        have m6 : 0 < s.1 * s.2 := Int.mul_pos h1 hpos
        by_cases ht : t < 160
        · have e : 160 - t = (160 - (t + 1)) + 1 := by omega
          rw [e, Nat.pow_succ] at h5
          omega
        · rw [show 160 - t = 0 by omega] at h5
          omega
      · show r = _
        grind
      · show p = s.2 * _ + r * _
        grind
      · show w = s.2 * _ + r * _
        grind
  · have h1 : p * w ≤ 2 ^ 80 * w := Int.mul_le_mul_of_nonneg_right (by omega) (by omega)
    have h2 : (2 : Int) ^ 80 * w < 2 ^ 80 * 2 ^ 80 := Int.mul_lt_mul_of_pos_left (by omega) (by decide)
    show (p * w).toNat < 2 ^ 160
    have h3 : (2 : Int) ^ 80 * 2 ^ 80 = 2 ^ 160 := by decide
    omega
  · rcases hz with ⟨s, rfl, h1, h2, h3, h4, h5, h6, h7, h8, h9⟩ | ⟨g, rfl, hg⟩
    · rw [rngL_length, show 160 - (200 : Int).toNat = 0 by decide] at h5
      have g0 : s.2 = 0 := by
        rcases Int.lt_or_le 0 s.2 with z | z
        · have := Int.mul_pos h1 z
          omega
        · omega
      exact .inl ⟨s, rfl, g0, h1, h4, fin s g0 h1 h4 h6 h8 h9⟩
    · exact .inr ⟨g, rfl, hg⟩
/-! the worth -/
theorem K2_up : ∀ {xs ys : List Int}, big2 (xs ++ ys) → ys ≠ [] → (K2 ys).1 ≤ (K2 (xs ++ ys)).1
  | [], _, _, _ => Int.le_refl _
  | n :: r, ys, hb, hn => by
    have hb' : big2 (r ++ ys) := fun x hx => hb x (List.mem_cons_of_mem _ hx)
    have ih := K2_up hb' hn
    have := K2_pos hb (by simp)
    have e : (K2 (n :: r ++ ys)).2 = (K2 (r ++ ys)).1 := rfl
    omega
theorem K2_head {n : Int} {r : List Int} (hb : big2 (n :: r)) : n ≤ (K2 (n :: r)).1 := by
  cases r with
  | nil => show n ≤ n * 1 - 0; omega
  | cons m r =>
    obtain ⟨p1, p2⟩ := K2_pos (xs := m :: r) (fun x hx => hb x (List.mem_cons_of_mem _ hx)) (by simp)
    have hn := hb n List.mem_cons_self
    show n ≤ n * (K2 (m :: r)).1 - (K2 (m :: r)).2
    generalize K2 (m :: r) = q at *
    have h1 : (n - 1) * 1 ≤ (n - 1) * q.1 := Int.mul_le_mul_of_nonneg_left (by omega) (by omega)
    have h2 : (n - 1) * q.1 = n * q.1 - q.1 := by rw [Int.sub_mul, Int.one_mul]
    omega
theorem K2_mem {xs : List Int} (hb : big2 xs) {n : Int} (hn : n ∈ xs) : n ≤ (K2 xs).1 := by
  obtain ⟨a, b, rfl⟩ := List.append_of_mem hn
  have h1 := K2_up hb (by simp)
  have h2 := K2_head (n := n) (r := b) (fun x hx => hb x (List.mem_append_right _ hx))
  omega
theorem worth_ok {L : List Int} (hb : big2 L) (hne : L ≠ []) (hl : L.length ≤ 20000) (hP : (K2 L).1 < 2 ^ 100) : m_l_minus_worth L = some (K2 L) := by
  have hlen : 0 < L.length := List.length_pos_iff.mpr hne
  refine Ok.eq ?_
  unfold m_l_minus_worth
  simp only [obs]
  have ea : atI L (-1) = some (L[L.length - 1]'(by omega)) := by
    unfold atI ixN
    rw [if_neg (by decide), if_pos (by omega)]
    show L[(-1 + (L.length : Int)).toNat]? = _
    rw [show (-1 + (L.length : Int)).toNat = L.length - 1 by omega, List.getElem?_eq_getElem]
  rw [ea, obs, range2_ok (by decide) (by omega), obs]
  have hd : ∀ i (h : i < L.length), L.drop i = L[i] :: L.drop (i + 1) := fun i h => List.drop_eq_getElem_cons h
  refine Ok.bind (P := fun s => s = K2 L) ?_ fun s hs => .of (by rw [hs])
  refine (ok_forN_ix (I := fun k s => k < L.length → s = K2 (L.drop (L.length - 1 - k))) (fun k x s hx hs => ?_) (fun _ => ?_)).mono fun s hs => ?_
  · obtain ⟨e, hk⟩ := rngL_get hx
    have hk2 : k + 1 < L.length := by omega
    have hs := hs (by omega)
    have hi : L.length - 1 - (k + 1) < L.length := by omega
    have eb : atI L ((L.length : Int) - 1 - x) = some L[L.length - 1 - (k + 1)] := by
      rw [show (L.length : Int) - 1 - x = ((L.length - 1 - (k + 1) : Nat) : Int) by omega]
      exact atI_nat (by rw [List.getElem?_eq_getElem hi])
    have hn := K2_mem hb (List.getElem_mem hi)
    have hn2 := hb _ (List.getElem_mem hi)
    have hbd : big2 (L.drop (L.length - 1 - k)) := fun x hx => hb x (List.mem_of_mem_drop hx)
    have hne' : L.drop (L.length - 1 - k) ≠ [] := by
      intro z
      have := congrArg List.length z
      rw [List.length_drop] at this
      simp at this
      omega
    have hs1 := K2_up (xs := L.take (L.length - 1 - k)) (ys := L.drop (L.length - 1 - k)) (by rw [List.take_append_drop]; exact hb) hne'
    rw [List.take_append_drop] at hs1
    have hs2 := K2_pos hbd hne'
    have hdd := hd _ hi
    rw [show L.length - 1 - (k + 1) + 1 = L.length - 1 - k by omega] at hdd
    have hkk : K2 (L.drop (L.length - 1 - (k + 1))) = (L[L.length - 1 - (k + 1)] * (K2 (L.drop (L.length - 1 - k))).1 - (K2 (L.drop (L.length - 1 - k))).2, (K2 (L.drop (L.length - 1 - k))).1) := by
      rw [hdd]
      rfl
    rw [eb, obs, hs, hkk]
    generalize K2 (L.drop (L.length - 1 - k)) = q at *
    rw [mulI_small (Nat.lt_trans (show (L[L.length - 1 - (k + 1)]).natAbs < 2 ^ 100 by omega) (by decide)) (Nat.lt_trans (show q.1.natAbs < 2 ^ 100 by omega) (by decide))]
    simp only [obs]
    exact .of fun _ => rfl
  · have := hd (L.length - 1) (by omega)
    rw [Nat.sub_zero, this, show L.length - 1 + 1 = L.length by omega, List.drop_length]
    show _ = (_ * 1 - 0, (1 : Int))
    rw [Int.mul_one, Int.sub_zero]
  · rw [rngL_length, show ((L.length : Int) - 1).toNat = L.length - 1 by omega] at hs
    have := hs (by omega)
    rw [Nat.sub_self, List.drop_zero] at this
    exact this
/-! both ways -/
theorem cut1 {xs : List Int} (h : 1 ≤ xs.length) : cutL xs (some 1) none = xs.drop 1 := by
  unfold cutL
  rw [show HT.sIx xs.length 0 (some 1) = 1 by show min (1 : Int).toNat xs.length = 1; omega]
  show (xs.drop 1).take (xs.length - 1) = _
  rw [List.take_of_length_le (by rw [List.length_drop]; omega)]
theorem prd_1 (xs : List Int) : (prd xs).1 = (K2 xs).1 := by rw [fold2_prd]; rfl
theorem K2_2 : ∀ {xs : List Int}, xs ≠ [] → (K2 xs).2 = (K2 (xs.drop 1)).1
  | [], h => absurd rfl h
  | _ :: _, _ => rfl
theorem fracof_ok {xs : List Int} (hne : xs ≠ []) (hf : fine 100 xs) (hl : xs.length ≤ 900) : m_turned_by xs = some (prd xs) ∧ m_turned_by (cutL xs (some 1) none) = some (prd (xs.drop 1)) ∧ m_fraction_of xs = some (K2 xs) := by
  have h1 := turned_ok hf hl
  have h2 := turned_ok (xs := xs.drop 1) (fun n hn => hf n (List.mem_of_mem_drop hn)) (by rw [List.length_drop]; omega)
  have h3 := cut1 (xs := xs) (List.length_pos_iff.mpr hne)
  refine ⟨h1, by rw [h3]; exact h2, ?_⟩
  unfold m_fraction_of
  simp only [h1, h3, h2, obs, prd_1]
  rw [← K2_2 hne]
theorem numbers_ok {p w : Int} (h1 : 1 ≤ w) (h2 : w < p) (h3 : p ≤ 10000) {k : Nat} (hk : w ≤ k) : m_numbers_of (p, w) = some (ml k p w) := minus_ok h1 h2 h3 hk
theorem K2_bd : ∀ {xs : List Int}, big2 xs → (∀ n ∈ xs, n ≤ 99) → (K2 xs).1 ≤ 99 ^ xs.length
  | [], _, _ => Int.le_refl _
  | n :: r, hb, h => by
    have ih := K2_bd (xs := r) (fun x hx => hb x (List.mem_cons_of_mem _ hx)) fun x hx => h x (List.mem_cons_of_mem _ hx)
    have hn := h n List.mem_cons_self
    have hn2 := hb n List.mem_cons_self
    have hr : 0 ≤ (K2 r).2 ∧ 0 ≤ (K2 r).1 := by
      cases r with
      | nil => exact ⟨Int.le_refl _, by show (0 : Int) ≤ 1; decide⟩
      | cons m r =>
        have := K2_pos (xs := m :: r) (fun x hx => hb x (List.mem_cons_of_mem _ hx)) (by simp)
        omega
    rw [List.length_cons, Int.pow_succ]
    show n * (K2 r).1 - (K2 r).2 ≤ _
    have a := Int.mul_le_mul_of_nonneg_right hn hr.2
    have b := Int.mul_le_mul_of_nonneg_left ih (show (0 : Int) ≤ 99 by decide)
    have c : (99 : Int) ^ r.length * 99 = 99 * 99 ^ r.length := Int.mul_comm _ _
    omega
theorem drawn_ok {fd : Fd} (h : fd.ok) : Ok (m_l_minus_drawn fd ()) (fun r => (big2 r.1 ∧ (∀ n ∈ r.1, n ≤ 99) ∧ r.1 ≠ [] ∧ r.1.length ≤ 12) ∧ r.2.ok) := by
  unfold m_l_minus_drawn
  simp only [m_l_draw, oba, obs]
  refine (draw_small h (by decide) (by decide)).bind fun a ha => ?_
  refine (draw_small ha.2.2 (by decide) (by decide)).bind fun b hb => ?_
  refine Ok.bind (P := fun s : Fd × Int => s.1.ok ∧ 1 ≤ s.2 ∧ s.2 ≤ 12) ?_ fun s hs => ?_
  · split
    · exact .of ⟨hb.2.2, by show (1 : Int) ≤ 12; decide, by show (12 : Int) ≤ 12; decide⟩
    · exact .of ⟨hb.2.2, by show 1 ≤ 1 + a.1; omega, by show 1 + a.1 ≤ 12; omega⟩
  · refine (draw_small hs.1 (by decide) (by decide)).bind fun k hk => ?_
    refine (mem_ok (fun m => 0 < m ∧ m < 99) hk.1 (by simpa using hk.2.1) (by simp)).bind fun m hm => ?_
    rw [range1_ok (by omega), obs]
    have hE := ok_compE (its := rngL 0 s.2.toNat) (me := fun (y16 : Int) (q17 : Fd) => (VS.draw q17 m).bind fun r20 => some (((2 : Int) + r20.1), r20.2)) (fd := k.2) (Q := fun n => 2 ≤ n ∧ n ≤ 99) (size_ok (by rw [rngL_length]; omega)) hk.2.2 fun x hx fd hf => (draw_small hf (by omega) (by omega)).bind fun d hd => .of ⟨by show 2 ≤ 2 + d.1 ∧ 2 + d.1 ≤ 99; omega, hd.2.2⟩
    refine hE.mono fun r hr => ⟨⟨fun n hn => (hr.2.1 n hn).1, fun n hn => (hr.2.1 n hn).2, ?_, ?_⟩, hr.2.2⟩
    · intro z
      have := hr.1
      rw [z, rngL_length] at this
      simp at this
      omega
    · have := hr.1
      rw [rngL_length] at this
      omega
theorem fraction_ok {fd : Fd} (h : fd.ok) {most : Int} (h1 : 2 ≤ most) (h2 : most ≤ 9999) : Ok (m_l_fraction fd most) (fun r => (1 ≤ r.1.2 ∧ r.1.2 < r.1.1 ∧ r.1.1 ≤ 10000 ∧ cop r.1.1 r.1.2) ∧ r.2.ok) := by
  unfold m_l_fraction
  simp only [m_l_draw, oba, obs]
  refine (draw_small h (by omega) (by omega)).bind fun a ha => ?_
  refine (draw_small ha.2.2 (by omega) (by omega)).bind fun b hb => ?_
  refine (div_ok (by omega) (by omega) (by omega)).bind fun g ⟨g1, g2, p, w, e1, e2, hc⟩ => ?_
  rw [div_sm g1 (s60 (by omega) (by omega)), obs, div_sm g1 (s60 (by omega) (by omega)), obs]
  have q1 : (1 + a.1 + 1 + b.1) / g = p := by rw [e1]; exact Int.mul_ediv_cancel_left _ (by omega)
  have q2 : (1 + a.1) / g = w := by rw [e2]; exact Int.mul_ediv_cancel_left _ (by omega)
  refine .of ⟨?_, hb.2.2⟩
  show 1 ≤ (1 + a.1) / g ∧ (1 + a.1) / g < (1 + a.1 + 1 + b.1) / g ∧ (1 + a.1 + 1 + b.1) / g ≤ 10000 ∧ cop ((1 + a.1 + 1 + b.1) / g) ((1 + a.1) / g)
  rw [q1, q2]
  have w0 : 0 < w := by
    rcases Int.lt_or_le 0 w with z | z
    · exact z
    · have := Int.mul_le_mul_of_nonneg_left z (show 0 ≤ g by omega)
      rw [Int.mul_zero] at this
      omega
  have wp : w < p := by
    rcases Int.lt_or_le w p with z | z
    · exact z
    · have := Int.mul_le_mul_of_nonneg_left z (show 0 ≤ g by omega)
      omega
  have pl : p ≤ 10000 := by
    have : 1 * p ≤ g * p := Int.mul_le_mul_of_nonneg_right (by omega) (by omega)
    omega
  exact ⟨by omega, wp, pl, hc⟩
theorem cop_of {p w : Int} (u v : Int) (h : p * u + w * v = 1) : cop p w := ⟨u, v, h⟩

/-! reading backwards -/
def tr (a : M4) : M4 := (a.1, -a.2.2.1, -a.2.1, a.2.2.2)
theorem tr_mul (a b : M4) : tr (mul a b) = mul (tr b) (tr a) := by
  simp only [tr, mul, Prod.mk.injEq]
  refine ⟨?_, ?_, ?_, ?_⟩ <;> grind
theorem prd_rev : ∀ xs : List Int, prd xs.reverse = tr (prd xs)
  | [] => rfl
  | n :: r => by
    rw [List.reverse_cons, prd_app, prd_rev r]
    show mul (tr (prd r)) (mul (step n) (1, 0, 0, 1)) = tr (mul (step n) (prd r))
    rw [mul_one', tr_mul]
    rfl
theorem prd_K (xs : List Int) : (prd xs).1 = (K2 xs).1 ∧ (prd xs).2.2.1 = (K2 xs).2 := by rw [fold2_prd]; exact ⟨rfl, rfl⟩
theorem rev_1 (xs : List Int) : (K2 xs.reverse).1 = (K2 xs).1 := by rw [← (prd_K xs.reverse).1, prd_rev, ← (prd_K xs).1]; rfl
theorem rev_2 (xs : List Int) : (K2 xs.reverse).2 = -(prd xs).2.1 := by rw [← (prd_K xs.reverse).2, prd_rev]; rfl
theorem big2_rev {xs : List Int} (h : big2 xs) : big2 xs.reverse := fun x hx => h x (List.mem_reverse.mp hx)
theorem K2_nn {xs : List Int} (h : big2 xs) : 0 ≤ (K2 xs).2 ∧ (K2 xs).2 ≤ (K2 xs).1 ∧ 1 ≤ (K2 xs).1 := by
  by_cases e : xs = []
  · subst e; decide
  · have := K2_pos h e
    omega
theorem take_le {L : List Int} (h : big2 L) (k : Nat) : (K2 (L.take k)).1 ≤ (K2 L).1 := by
  by_cases e : L.take k = []
  · rw [e]
    have := K2_nn h
    show (1 : Int) ≤ _
    omega
  · rw [← rev_1 (L.take k), ← rev_1 L]
    have : L.reverse = (L.drop k).reverse ++ (L.take k).reverse := by rw [← List.reverse_append, List.take_append_drop]
    rw [this]
    exact K2_up (by rw [← this]; exact big2_rev h) (by simpa using e)
theorem tail_le {L : List Int} (h : big2 L) : (K2 (L.drop 1)).1 ≤ (K2 L).1 := by
  cases L with
  | nil => exact Int.le_refl _
  | cons n r =>
    have := K2_nn h
    show (K2 r).1 ≤ _
    have e : (K2 (n :: r)).2 = (K2 r).1 := rfl
    omega
theorem prd_small {xs : List Int} {P : Int} (h : big2 xs) (hP : (K2 xs).1 ≤ P) (hP2 : P < 2 ^ 100) : bd 100 (prd xs) := by
  have h1 := K2_nn h
  have h2 := K2_nn (big2_rev h)
  rw [rev_1, rev_2] at h2
  refine ⟨by rw [(prd_K xs).1]; omega, by omega, by rw [(prd_K xs).2]; omega, ?_⟩
  cases xs with
  | nil => decide
  | cons n r =>
    have h3 := K2_nn (big2_rev (xs := r) fun x hx => h x (List.mem_cons_of_mem _ hx))
    rw [rev_1, rev_2] at h3
    have h4 := tail_le h
    have e : (prd (n :: r)).2.2.2 = (prd r).2.1 := by
      show 1 * (prd r).2.1 + 0 * (prd r).2.2.2 = _
      omega
    have e2 : (List.drop 1 (n :: r)) = r := rfl
    rw [e2] at h4
    rw [e]
    omega
theorem turned_big {L : List Int} (h : big2 L) (hP : (K2 L).1 < 2 ^ 100) : m_turned_by L = some (prd L) := by
  refine Ok.eq ?_
  unfold m_turned_by
  show Ok ((forN L _ c_NOTHING).bind fun s => some s) _
  refine Ok.bind (P := fun s => s = prd L) ?_ fun s hs => .of hs
  refine (ok_forN_ix (its := L) (I := fun k s => s = prd (L.take k)) (fun k n s hn hs => ?_) (by rw [List.take_zero]; rfl)).mono fun s hs => by rw [hs, List.take_length]
  have hk := (List.getElem?_eq_some_iff.mp hn).1
  have hm := List.mem_of_getElem? hn
  have b1 := prd_small (xs := L.take k) (fun x hx => h x (List.mem_of_mem_take hx)) (take_le h k) hP
  have b2 := h n hm
  have b3 := K2_mem h hm
  have e : m_multiplied (s, (n, -1, 1, 0)) = some (mul (prd (L.take k)) (step n)) := by
    rw [hs]
    exact multiplied_ok b1 (step_bd (n := n) (by omega)) (by decide)
  refine ⟨_, ?_, (?_ : mul (prd (L.take k)) (step n) = prd (L.take (k + 1)))⟩
  · show (m_multiplied (s, (n, -1, 1, 0))).bind _ = _
    rw [e]
    rfl
  · rw [List.take_succ, hn, prd_app]
    show _ = mul _ (mul (step n) (1, 0, 0, 1))
    rw [mul_one']
theorem fracof_big {xs : List Int} (hne : xs ≠ []) (h : big2 xs) (hP : (K2 xs).1 < 2 ^ 100) : m_fraction_of xs = some (K2 xs) := by
  have h1 := turned_big h hP
  have h2 := turned_big (L := xs.drop 1) (fun x hx => h x (List.mem_of_mem_drop hx)) (by have := tail_le h; omega)
  have h3 := cut1 (xs := xs) (List.length_pos_iff.mpr hne)
  unfold m_fraction_of
  simp only [h1, h3, h2, obs, prd_1]
  rw [← K2_2 hne]
theorem turnedf_ok {L : List Int} (h : big2 L) (hne : L ≠ []) (hp : (K2 L).1 ≤ 10000) : m_turned_fraction ((K2 L).1, (K2 L).2) = some (K2 L.reverse) := by
  have hpos := K2_pos h hne
  have e := numbers_ok (p := (K2 L).1) (w := (K2 L).2) (k := (K2 L).2.toNat) hpos.1 hpos.2 hp (by omega)
  rw [ml_K2 _ h hne (by omega)] at e
  have e2 := fracof_big (xs := L.reverse) (by simpa using hne) (big2_rev h) (by rw [rev_1]; omega)
  unfold m_turned_fraction
  simp only [e, e2, obs]
theorem rngL_succ (lo : Int) (n : Nat) : rngL lo (n + 1) = rngL lo n ++ [lo + n] := by
  unfold rngL
  rw [List.range_succ, List.map_append]
  rfl
theorem filter_none {lo : Int} {P : Int → Bool} : ∀ {n : Nat}, (∀ y, lo ≤ y → y < lo + n → P y = false) → (rngL lo n).filter P = []
  | n, h => List.filter_eq_nil_iff.mpr fun y hy => by
    obtain ⟨a, b⟩ := rngL_mem hy
    rw [h y a b]
    decide
theorem filter_one {lo q : Int} {P : Int → Bool} (hP : P q = true) : ∀ {n : Nat}, lo ≤ q → q < lo + n → (∀ y, lo ≤ y → y < lo + n → P y = true → y = q) → (rngL lo n).filter P = [q]
  | 0, h1, h2, _ => absurd h2 (by omega)
  | n + 1, h1, h2, hu => by
    rw [rngL_succ, List.filter_append]
    by_cases e : q = lo + n
    · rw [filter_none (fun y a b => ?_)]
      · rw [← e, List.filter_cons_of_pos hP]
        rfl
      · cases hy : P y with
        | false => rfl
        | true => have := hu y a (by omega) hy; omega
    · rw [filter_one hP (n := n) h1 (by omega) fun y a b c => hu y a (by omega) c]
      rw [List.filter_cons_of_neg (fun z => ?_)]
      · rfl
      · have := hu (lo + n) (by omega) (by omega) z
        omega
theorem right_ok {p w : Int} (h1 : 1 ≤ w) (h2 : w < p) (h3 : p ≤ 10000) (hc : cop p w) : m_l_right (p, w) = some true := by
  obtain ⟨hb, hne, hk, hl⟩ := ml_ok w.toNat h1 h2 (by omega) hc
  have e1 := lminus_ok h1 h2 h3 (k := w.toNat) (by omega)
  generalize ml w.toNat p w = L at *
  have hbr := big2_rev hb
  have hner : L.reverse ≠ [] := by simpa using hne
  have k1 : (K2 L).1 = p := by rw [hk]
  have k2 : (K2 L).2 = w := by rw [hk]
  have r1 : (K2 L.reverse).1 = p := by rw [rev_1, k1]
  have e2 := worth_ok hbr hner (by rw [List.length_reverse]; omega) (by rw [r1]; omega)
  have e3 := turnedf_ok hb hne (by rw [k1]; exact h3)
  rw [k1, k2] at e3
  have e4 := turnedf_ok hbr hner (by rw [r1]; exact h3)
  rw [List.reverse_reverse, hk] at e4
  have hpos := K2_pos hbr hner
  have e5 := numbers_ok (p := (K2 L.reverse).1) (w := (K2 L.reverse).2) (k := (K2 L.reverse).2.toNat) hpos.1 hpos.2 (by rw [r1]; exact h3) (by omega)
  rw [ml_K2 _ hbr hner (by omega)] at e5
  have hdet := det_prd L
  unfold det at hdet
  rw [(prd_K L).1, (prd_K L).2, k1, k2] at hdet
  have hq := rev_2 L
  generalize hqq : (K2 L.reverse).2 = q at *
  generalize (prd L).2.2.2 = dd at *
  have hqw : q * w = 1 + p * (-dd) := by rw [hq]; grind
  have hmod : ∀ t : Int, (1 + p * t) % p = 1 := fun t => by
    rw [Int.add_mul_emod_self_left]
    exact Int.emod_eq_of_lt (by decide) (by omega)
  rw [r1] at hpos e4 e5
  refine Ok.eq ?_
  unfold m_l_right
  simp only [e1, e2, e3, obs, pair_ok, r1, hqq, Bool.not_true, VS.orM, Bool.false_eq_true, if_false, decide_true, decide_eq_false (show ¬ q < 1 by omega), decide_eq_false (show ¬ p ≤ q by omega), mul_sm (s60 (show -100000000 ≤ q by omega) (show q ≤ 100000000 by omega)) (s60 (show -100000000 ≤ w by omega) (show w ≤ 100000000 by omega)), intI, modI_ok (show 0 < p by omega)]
  rw [hqw, hmod]
  simp only [decide_true, Bool.not_true, Bool.false_eq_true, if_false]
  refine ok_thenR (P := fun _ : Unit => True) ?_ fun _ _ => ?_
  · by_cases c : p < 200
    · rw [decide_eq_true c, if_pos rfl, range2_ok (by decide) (by omega), obs]
      rw [compM_filter (p := fun y => decide (y * w % p = 1)) (f := fun y => y) (size_ok (by rw [rngL_length]; omega)) (fun y hy => by
        have := rngL_mem hy
        rw [mul_sm (s60 (by omega) (by omega)) (s60 (by omega) (by omega))]
        simp only [obs, intI, modI_ok (show 0 < p by omega)]) (fun _ _ _ => rfl), obs, List.map_id']
      rw [filter_one (q := q) (decide_eq_true (by rw [hqw, hmod])) (by omega) (by omega) fun y a b hy => ?_]
      · simp only [decide_true, Bool.not_true, Bool.false_eq_true, if_false]
        exact .of ⟨(), rfl, trivial⟩
      · have hy : y * w % p = 1 := of_decide_eq_true hy
        have e := Int.mul_ediv_add_emod (y * w) p
        rw [hy] at e
        obtain ⟨u, v, ec⟩ := hc
        generalize y * w / p = s at e
        have e6 : y - q = p * ((s + dd) * v + (y - q) * u) := by
          have a1 : (y - q) * w = p * (s + dd) := by grind
          have a2 : (y - q) * (p * u + w * v) = y - q := by rw [ec, Int.mul_one]
          grind
        have := mul_small (w := p) (k := (s + dd) * v + (y - q) * u) (by omega) (by omega) (by omega)
        rw [this] at e6
        omega
    · rw [decide_eq_false c]
      exact .of ⟨(), rfl, trivial⟩
  · rw [e4]
    simp only [obs, pair_ok, Bool.not_true, Bool.false_eq_true, if_false, e5, list_ok (show L.reverse.length ≤ 100000 by rw [List.length_reverse]; omega)]
    exact .of rfl
def good (L : List Int) : Prop := big2 L ∧ (∀ n ∈ L, n ≤ 99) ∧ L ≠ [] ∧ L.length ≤ 12
theorem good_take {L : List Int} (h : good L) {k : Nat} (hk : 0 < k) : good (L.take k) := by
  refine ⟨fun x hx => h.1 x (List.mem_of_mem_take hx), fun x hx => h.2.1 x (List.mem_of_mem_take hx), ?_, ?_⟩
  · intro z
    have := congrArg List.length z
    rw [List.length_take, List.length_nil] at this
    have h2 := List.length_pos_iff.mpr h.2.2.1
    omega
  · have := h.2.2.2
    rw [List.length_take]
    omega
theorem cut_to {xs : List Int} {k : Nat} : cutL xs none (some (k : Int)) = xs.take (min k xs.length) := by
  unfold cutL
  rw [HT.sIx_nat, HT.sIx_none, List.drop_zero, Nat.sub_zero]
theorem good_cut {L : List Int} (h : good L) {k : Nat} (hk : 0 < k) : good (cutL L none (some (k : Int))) := by
  rw [cut_to]
  exact good_take h (by have := List.length_pos_iff.mpr h.2.2.1; omega)
theorem good_K2 {L : List Int} (h : good L) : (K2 L).1 < 2 ^ 80 := by
  have h1 := K2_bd h.1 h.2.1
  have h2 : (99 : Int) ^ L.length ≤ 99 ^ 12 := by
    have : (99 : Nat) ^ L.length ≤ 99 ^ 12 := Nat.pow_le_pow_right (by decide) h.2.2.2
    exact_mod_cast this
  have h3 : (99 : Int) ^ 12 < 2 ^ 80 := by decide
  omega
theorem own_ok {L : List Int} (h : good L) : ((m_l_minus_worth L).bind fun t17 => (VS.andM (some (decide (t17.1 ≤ (9999 : Int)))) ((m_l_right (t17.1, t17.2)).bind fun x18 => some (!x18))).bind fun k27 => if k27 then (some false).bind fun r => some (.inr r) else (VS.andM (some (decide (L = L.reverse))) (VS.andM (some (decide (t17.1 ≤ (9999 : Int)))) ((((m_turned_fraction (t17.1, t17.2)).bind fun x19 => some (x19, (t17.1, t17.2))).bind fun x20 => m_l_pair x20).bind fun x21 => some (!x21)))).bind fun k26 => if k26 then (some false).bind fun r => some (.inr r) else ((((m_fraction_of L).bind fun x22 => some (x22, (t17.1, t17.2))).bind fun x23 => m_l_pair x23).bind fun x24 => some (!x24)).bind fun k25 => if k25 then (some false).bind fun r => some (.inr r) else some (.inl ()) : Option (Sum Unit Bool)) = some (.inl ()) := by
  have hb := good_K2 h
  have hw := worth_ok h.1 h.2.2.1 (by have := h.2.2.2; omega) (Int.lt_trans hb (by decide))
  have hf := fracof_big h.2.2.1 h.1 (Int.lt_trans hb (by decide))
  have hpos := K2_pos h.1 h.2.2.1
  rw [hw, obs, hf]
  simp only [obs, pair_ok, Bool.not_true, Bool.false_eq_true, if_false]
  by_cases c : (K2 L).1 ≤ 9999
  · rw [decide_eq_true c, right_ok hpos.1 hpos.2 (by omega) (K2_cop L)]
    simp only [VS.andM, obs, if_true, Bool.not_true, Bool.false_eq_true, if_false]
    by_cases e : L = L.reverse
    · rw [decide_eq_true e, if_pos rfl, turnedf_ok h.1 h.2.2.1 (by omega), ← e]
      simp only [obs, pair_ok, Bool.not_true, Bool.false_eq_true, if_false]
    · rw [decide_eq_false e]
      rfl
  · rw [decide_eq_false c]
    simp only [VS.andM, obs, Bool.false_eq_true, if_false]
    cases decide (L = L.reverse) <;> rfl
theorem law_true (s : List Int) (hs : s.length ≤ 63) : m_law s = some true := by
  have g222 : good [2, 2, 2] := ⟨fun n hn => by simp at hn; omega, fun n hn => by simp at hn; omega, by decide, by decide⟩
  have k4 : m_turned_fraction (7, 5) = some (7, 3) := by decide +kernel
  have k5 : m_turned_fraction (2, 1) = some (2, 1) := by decide +kernel
  refine Ok.eq ?_
  unfold m_law
  simp only [obs, k4, k5]
  refine ok_thenR (P := Fd.ok) (ok_forM_mem (I := Fd.ok) (fun m hm fd hf => ?_) (feed0_ok hs)) fun fd hf => ?_
  · have hm2 : 2 ≤ m ∧ m ≤ 9999 := by
      simp only [List.mem_cons, List.not_mem_nil, or_false] at hm
      omega
    refine (fraction_ok hf hm2.1 hm2.2).bind fun f hf => ?_
    rw [right_ok hf.1.1 hf.1.2.1 hf.1.2.2.1 hf.1.2.2.2]
    exact .of ⟨_, rfl, hf.2⟩
  · simp only [oba, obs]
    refine (drawn_ok hf).bind fun r hr => ?_
    obtain ⟨L, fd⟩ := r
    obtain ⟨hL, hf⟩ := hr
    have gL : good L := hL
    have gn := good_cut gL (k := 6) (by decide)
    have hn6 : (cutL L none (some ((6 : Nat) : Int))).length ≤ 6 := by
      rw [cut_to, List.length_take]
      omega
    simp only [] at hf ⊢
    rw [show (some (6 : Int)) = some ((6 : Nat) : Int) from rfl]
    generalize cutL L none (some ((6 : Nat) : Int)) = N at *
    have c1 := cut1 (xs := N.reverse) (by rw [List.length_reverse]; exact List.length_pos_iff.mpr gn.2.2.1)
    rw [c1, catT_ok (by rw [List.length_drop, List.length_reverse]; omega), obs]
    have gs : good (N ++ N.reverse.drop 1) := by
      refine ⟨fun x hx => ?_, fun x hx => ?_, by simp [gn.2.2.1], by rw [List.length_append, List.length_drop, List.length_reverse]; omega⟩
      · rcases List.mem_append.mp hx with q | q
        · exact gn.1 x q
        · exact gn.1 x (List.mem_reverse.mp (List.mem_of_mem_drop q))
      · rcases List.mem_append.mp hx with q | q
        · exact gn.2.1 x q
        · exact gn.2.1 x (List.mem_reverse.mp (List.mem_of_mem_drop q))
    refine ok_thenR (P := fun _ : Unit => True) (ok_forM_mem (I := fun _ : Unit => True) (fun x hx _ _ => ?_) trivial) fun _ _ => ?_
    · have gx : good x := by
        simp only [List.mem_cons, List.not_mem_nil, or_false] at hx
        rcases hx with rfl | rfl | rfl | rfl
        · exact gn
        · exact good_cut gs (k := 12) (by decide)
        · exact good_cut gn (k := 2) (by decide)
        · exact g222
      have := own_ok gx
      simp only [oba, obs] at this ⊢
      rw [this]
      exact .of ⟨(), rfl, trivial⟩
    · simp only [m_l_draw, oba, obs]
      refine (draw_small hf (by decide) (by decide)).bind fun n hn => ?_
      rw [right_ok (p := 2 + n.1) (w := 2 + n.1 - 1) (by omega) (by omega) (by omega) (cop_of 1 (-1) (by omega)), right_ok (p := 2 + n.1) (w := 1) (by omega) (by omega) (by omega) (cop_of 0 1 (by omega))]
      exact ⟨true, rfl, rfl⟩
theorem walk {l : PySem.W.OpenLaw} {q : Program} {loose : List Str} {XP : (Str → Option Value) → Heap → Prop} {YP : World → Heap → Prop} {d : DefRec} {K : Params → PySem.W.Frag} (hn : l.most = some 63) (hdf : d.params.defaults = []) (hm : ∀ s : List Int, s.length ≤ 63 → m_law s = some true)
    (hY : ∀ (w : World) (h : Heap), YP w h → (K w.params).In h)
    (F : ∀ (w : World) (mg : Str → Option Value) (fa : Addr) (h : Heap), (K w.params).In h → h.Ns mainGlobals mg → mg d.name = some (.ref fa) →
      ∃ fd : FuncData, (∀ (s : Shared) (u : Value), BindsTo s fd ⟨[u], []⟩ [("script", u)]) ∧ ∀ base : Heap, (K w.params).In base → base.Ns mainGlobals mg → FnOk l.prog w (K w.params) mg base CX0 7 fa fd ["script"] (spP (K w.params) 1 (fun s : List Int => [dL dI s]) m_law dB)) :
    PySem.W.WalkO q loose XP YP l.row.toRowW d [] (fun f vs => PySem.call f vs) :=
  L2.walk_of (n := 63) (k := 7) (x := "script") (CX := fun _ => CX0) (sp := fun w => spLaw (K w.params)) hn (by decide) hdf ⟨rfl, by decide, by decide⟩ hY (fun w mg fa h X G hm' => by
    obtain ⟨fd, hb, hF⟩ := F w mg fa h X G hm'
    exact ⟨fd, hb, fun base Kb Gb => law_ok (hF base Kb Gb) hm⟩) (fun _ _ a ns hl _ hS => ⟨a, ns, rfl, hS, hl, fun _ => rfl⟩) fun _ _ _ _ _ z => z
end K51
open PySem PySem.W PyProof.Rows
set_option maxRecDepth 100000 in
set_option maxHeartbeats 0 in
theorem PySem.Challenge.cw_ringlands_k51_fractions_read_backwards_holds : PySem.Challenge.rw_ringlands_k51_fractions_read_backwards.Holds := by
  w_on; o_law; k_head; (case hw => w_witness2)
  k_fill
  refine K51.walk (l := PySem.Challenge.rw_ringlands_k51_fractions_read_backwards) rfl rfl K51.law_true (fun w h Y => PySem.W.kIn_of Y) ?F
  case F =>
    intro w mg fa h KX G hmg
    refine' K51.all_mk KX G hmg ?a0 ?l0 ?q0 ?k0 ?a1 ?l1 ?q1 ?k1 ?a2 ?l2 ?q2 ?k2 ?a3 ?l3 ?q3 ?k3 ?a4 ?l4 ?q4 ?k4 ?a5 ?l5 ?q5 ?k5 ?a6 ?l6 ?q6 ?k6 ?a7 ?l7 ?q7 ?k7 ?a8 ?l8 ?q8 ?k8 ?a9 ?l9 ?q9 ?k9 ?a10 ?l10 ?q10 ?k10 ?a11 ?l11 ?q11 ?k11 ?a12 ?l12 ?q12 ?k12 ?a13 ?l13 ?q13 ?k13 ?a14 ?l14 ?q14 ?k14 ?a15 ?l15 ?q15 ?k15 ?a16 ?l16 ?q16 ?k16 ?a17 ?l17 ?q17 ?k17 ?a18 ?l18 ?q18 ?k18 ?z0 ?z1 ?z2 ?z3 ?z4 ?z5 ?z6 ?z7 ?y_NOTHING ?yl_NOTHING
    (case a0 => k_is)
    (case l0 => k_is)
    (case q0 => k_is)
    (case k0 => k_is)
    (case a1 => k_is)
    (case l1 => k_is)
    (case q1 => k_is)
    (case k1 => k_is)
    (case a2 => k_is)
    (case l2 => k_is)
    (case q2 => k_is)
    (case k2 => k_is)
    (case a3 => k_is)
    (case l3 => k_is)
    (case q3 => k_is)
    (case k3 => k_is)
    (case a4 => k_is)
    (case l4 => k_is)
    (case q4 => k_is)
    (case k4 => k_is)
    (case a5 => k_is)
    (case l5 => k_is)
    (case q5 => k_is)
    (case k5 => k_is)
    (case a6 => k_is)
    (case l6 => k_is)
    (case q6 => k_is)
    (case k6 => k_is)
    (case a7 => k_is)
    (case l7 => k_is)
    (case q7 => k_is)
    (case k7 => k_is)
    (case a8 => k_is)
    (case l8 => k_is)
    (case q8 => k_is)
    (case k8 => k_is)
    (case a9 => k_is)
    (case l9 => k_is)
    (case q9 => k_is)
    (case k9 => k_is)
    (case a10 => k_is)
    (case l10 => k_is)
    (case q10 => k_is)
    (case k10 => k_is)
    (case a11 => k_is)
    (case l11 => k_is)
    (case q11 => k_is)
    (case k11 => k_is)
    (case a12 => k_is)
    (case l12 => k_is)
    (case q12 => k_is)
    (case k12 => k_is)
    (case a13 => k_is)
    (case l13 => k_is)
    (case q13 => k_is)
    (case k13 => k_is)
    (case a14 => k_is)
    (case l14 => k_is)
    (case q14 => k_is)
    (case k14 => k_is)
    (case a15 => k_is)
    (case l15 => k_is)
    (case q15 => k_is)
    (case k15 => k_is)
    (case a16 => k_is)
    (case l16 => k_is)
    (case q16 => k_is)
    (case k16 => k_is)
    (case a17 => k_is)
    (case l17 => k_is)
    (case q17 => k_is)
    (case k17 => k_is)
    (case a18 => k_is)
    (case l18 => k_is)
    (case q18 => k_is)
    (case k18 => k_is)
    (case z0 => k_is)
    (case z1 => k_is)
    (case z2 => k_is)
    (case z3 => k_is)
    (case z4 => k_is)
    (case z5 => k_is)
    (case z6 => k_is)
    (case z7 => k_is)
    (case y_NOTHING => k_is)
    (case yl_NOTHING => k_is)
