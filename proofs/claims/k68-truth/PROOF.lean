import PyProof.Rows.All
import Wide.All
import OpenK.AllK
import Wide.FinOn
import PyProof.EqAt
import PyProof.EqKinds
import PyProof.TupleCall
import HandS.ForMost
import HandS.ForExc
import HandS.CallSlots
import HandS.TryMany
import HandS.ExcIs
import HandS.IsInst
import HandS.Defaults
import HandS.Ends
import HandS.Head0
import HandS.Head1
import HandS.Head2
import HandS.HeadEnd
import HandS.HeadHook1
import HandS.HeadHook2
import HandS.Dict
import HandS.WordsDict
import HandS.Wide
import HandS.Deep
import PySem.Challenge.RW_trueleaf_k68_whole_pages_tell_the_truth
set_option Elab.async false
set_option linter.all false
set_option autoImplicit false
set_option maxRecDepth 100000
set_option maxHeartbeats 3999000
/-! The pure-value layer: core. -/
namespace PV
open PySem PySem.Spec PyProof.Rows L2

abbrev St := L2.St
inductive Ec where
  | badRow | noPart | ring | tooLong | badCall | deep | noShort | badForm | badWord | badPaper | noGrowth | twice | noFoot | noMark | noLaying | badName | noRow | nothingDone
  deriving DecidableEq

abbrev Mini := List (Addr × HO)
theorem same_seqT {K : PySem.W.Frag} {H H' : Hp} {a : Addr} {xs : List V} (e : Same H H') (h : SqT K H a xs) : SqT K H' a xs := by
  rcases h with (h | ⟨o, h⟩) | h
  · exact .inl (.inl (e _ _ h))
  · exact .inl (.inr ⟨o, e _ _ h⟩)
  · exact .inr h
theorem same_rd {H H' : Hp} {a : Addr} {o : HO} (e : Same H H') (h : Rd H a o) : Rd H' a o := by
  rcases h with h | ⟨u, h⟩
  · exact .inl (e _ _ h)
  · exact .inr ⟨u, e _ _ h⟩
mutual
/-- the value v is the data d, by the heap H -/
inductive Dq (K : PySem.W.Frag) (H : Hp) : V → PyData → Prop
  | non : Dq K H .non .none
  | bl (b : Bool) : Dq K H (.bl b) (.bool b)
  | int (i : Int) : Dq K H (.int i) (.int i)
  | str (x : Str) : Dq K H (.str x) (.str x)
  | lst {a : Addr} {xs : List V} {ds : List PyData} : Rd H a (.lst xs) → DqAll K H xs ds → Dq K H (.ref a) (.list ds)
  | tup {a : Addr} {xs : List V} {ds : List PyData} : H a = some (.tup xs) → DqAll K H xs ds → Dq K H (.ref a) (.tuple ds)
inductive DqAll (K : PySem.W.Frag) (H : Hp) : List V → List PyData → Prop
  | nil : DqAll K H [] []
  | cons {v : V} {vs : List V} {d : PyData} {ds : List PyData} : Dq K H v d → DqAll K H vs ds → DqAll K H (v :: vs) (d :: ds)
end
mutual
theorem dq_mono {K : PySem.W.Frag} {H H' : Hp} (e : Same H H') : ∀ (d : PyData) (v : V), Dq K H v d → Dq K H' v d
  | .none, _, h => by cases h; exact .non
  | .bool b, _, h => by cases h; exact .bl b
  | .int i, _, h => by cases h; exact .int i
  | .str x, _, h => by cases h; exact .str x
  | .list ds, _, h => by
    cases h with
    | lst hs ha => exact .lst (same_rd e hs) (dqAll_mono e ds _ ha)
  | .tuple ds, _, h => by
    cases h with
    | tup hs ha => exact .tup (e _ _ hs) (dqAll_mono e ds _ ha)
  | .dict _, _, h => by cases h
theorem dqAll_mono {K : PySem.W.Frag} {H H' : Hp} (e : Same H H') : ∀ (ds : List PyData) (vs : List V), DqAll K H vs ds → DqAll K H' vs ds
  | [], _, h => by cases h; exact .nil
  | d :: ds, _, h => by
    cases h with
    | cons h1 h2 => exact .cons (dq_mono e d _ h1) (dqAll_mono e ds _ h2)
end
mutual
theorem Dq.dp {K : PySem.W.Frag} {H : Hp} : ∀ (d : PyData) (v : V), Dq K H v d → L2.Dp K H v d
  | .none, _, h => by cases h; exact .non
  | .bool b, _, h => by cases h; exact .bl b
  | .int i, _, h => by cases h; exact .int i
  | .str x, _, h => by cases h; exact .str x
  | .list ds, _, h => by
    cases h with
    | lst hs ha => exact .lst (.inl hs) (DqAll.dp ds _ ha)
  | .tuple ds, _, h => by
    cases h with
    | tup hs ha => exact .tup (.of hs) (DqAll.dp ds _ ha)
  | .dict _, _, h => by cases h
theorem DqAll.dp {K : PySem.W.Frag} {H : Hp} : ∀ (ds : List PyData) (vs : List V), DqAll K H vs ds → L2.DpAll K H vs ds
  | [], _, h => by cases h; exact .nil
  | d :: ds, _, h => by
    cases h with
    | cons h1 h2 => exact .cons (Dq.dp d _ h1) (DqAll.dp ds _ h2)
end
section
variable {K : PySem.W.Frag} {H : Hp}
theorem DqAll_len : ∀ {vs : List V} {ds : List PyData}, DqAll K H vs ds → vs.length = ds.length
  | _, _, .nil => rfl
  | _, _, .cons _ t => congrArg (· + 1) (DqAll_len t)
theorem DqAll_app : ∀ {vs : List V} {ds : List PyData} {ws : List V} {es : List PyData}, DqAll K H vs ds → DqAll K H ws es → DqAll K H (vs ++ ws) (ds ++ es)
  | _, _, _, _, .nil, h => h
  | _, _, _, _, .cons a t, h => .cons a (DqAll_app t h)
theorem DqAll_get : ∀ {vs : List V} {ds : List PyData} {i : Nat} {d : PyData}, DqAll K H vs ds → ds[i]? = some d → ∃ v, vs[i]? = some v ∧ Dq K H v d
  | _, _, _, _, .nil, e => by simp at e
  | _, _, 0, _, .cons a _, e => by simp at e; subst e; exact ⟨_, by simp, a⟩
  | _, _, i + 1, d, .cons _ t, e => by
    obtain ⟨v, h1, h2⟩ := DqAll_get (i := i) (d := d) t (by simpa using e)
    exact ⟨v, by simpa using h1, h2⟩
theorem DqAll_getV : ∀ {vs : List V} {ds : List PyData} {i : Nat} {v : V}, DqAll K H vs ds → vs[i]? = some v → ∃ d, ds[i]? = some d ∧ Dq K H v d
  | _, _, _, _, .nil, e => by simp at e
  | _, _, 0, _, .cons a _, e => by simp at e; subst e; exact ⟨_, by simp, a⟩
  | _, _, i + 1, v, .cons _ t, e => by
    obtain ⟨d, h1, h2⟩ := DqAll_getV (i := i) (v := v) t (by simpa using e)
    exact ⟨d, by simpa using h1, h2⟩
theorem DqAll_set : ∀ {vs : List V} {ds : List PyData} {v : V} {d : PyData} (i : Nat), DqAll K H vs ds → Dq K H v d → DqAll K H (vs.set i v) (ds.set i d)
  | _, _, _, _, _, .nil, _ => .nil
  | _, _, _, _, 0, .cons _ t, h => .cons h t
  | _, _, _, _, i + 1, .cons a t, h => .cons a (DqAll_set i t h)
theorem DqAll_take : ∀ {vs : List V} {ds : List PyData} (n : Nat), DqAll K H vs ds → DqAll K H (vs.take n) (ds.take n)
  | _, _, 0, _ => .nil
  | _, _, _ + 1, .nil => .nil
  | _, _, n + 1, .cons a t => .cons a (DqAll_take n t)
theorem DqAll_drop : ∀ {vs : List V} {ds : List PyData} (n : Nat), DqAll K H vs ds → DqAll K H (vs.drop n) (ds.drop n)
  | _, _, 0, h => h
  | _, _, _ + 1, .nil => .nil
  | _, _, n + 1, .cons _ t => DqAll_drop n t
end

/-- what a name holds: by the frozen heap, the value, the objects that it owns -/
structure Slot where
  R : PySem.W.Frag → Hp → V → Mini → Prop
  mono : ∀ (K : PySem.W.Frag) (F F' : Hp) (v : V) (m : Mini), Same F F' → R K F v m → R K F' v m
/-- data that never changes -/
def fz (d : PyData) : Slot := ⟨fun K F v m => m = [] ∧ Dq K F v d, fun _ _ _ _ _ e ⟨h1, h2⟩ => ⟨h1, dq_mono e _ _ h2⟩⟩
/-- a list that nobody else holds -/
def ow (p : Option Addr) (ds : List PyData) : Slot := ⟨fun K F v m => ∃ a vs, v = .ref a ∧ m = [(a, .lst vs)] ∧ (∀ q, p = some q → a = q) ∧ DqAll K F vs ds,
  fun _ _ _ _ _ e ⟨a, vs, h1, h2, h3, h4⟩ => ⟨a, vs, h1, h2, h3, dqAll_mono e _ _ h4⟩⟩
/-- a list that is known to the module, or handed in by the law's caller -/
def kn (ds : List PyData) : Slot := ⟨fun K F v m => m = [] ∧ ∃ a vs, v = .ref a ∧ SqL K F a vs ∧ DqAll K F vs ds, fun _ _ _ _ _ e ⟨h, a, vs, h1, h2, h3⟩ => ⟨h, a, vs, h1, e.seq h2, dqAll_mono e _ _ h3⟩⟩
abbrev Env := List (Option Slot)

structure EOk (K : PySem.W.Frag) (ρ : Env) (F : Hp) (σ : St) (H : Hp) (M : Nat → Mini) : Prop where
  len : σ.length = ρ.length
  sub : Same F H
  at_ : ∀ (i : Nat) (S : Slot), ρ[i]? = some (some S) → ∃ v, σ[i]? = some (some v) ∧ S.R K F v (M i)
  own : ∀ (i : Nat) (a : Addr) (o : HO), (a, o) ∈ M i → H a = some o ∧ F a = none
  apart : ∀ (i j : Nat) (a : Addr) (o o' : HO), (a, o) ∈ M i → (a, o') ∈ M j → i = j

/-- nothing tracked changes; what is newly frozen was not there -/
structure Ext (F H F' H' : Hp) : Prop where
  f : Same F F'
  h : Same H H'
  sub : Same F' H'
  new : ∀ a o, F' a = some o → F a = none → H a = none
theorem Ext.refl {F H : Hp} (s : Same F H) : Ext F H F H := ⟨.refl _, .refl _, s, fun a o h1 h2 => by rw [h1] at h2; cases h2⟩
theorem Ext.trans {F H F1 H1 F2 H2 : Hp} (a : Ext F H F1 H1) (b : Ext F1 H1 F2 H2) : Ext F H F2 H2 := ⟨a.f.trans b.f, a.h.trans b.h, b.sub, fun c o h1 h2 => by
  cases q : F1 c with
  | none => exact a.h.free (b.new c o h1 q)
  | some u => exact a.new c u q h2⟩
/-- a new object is frozen at once -/
theorem Ext.laid {F H : Hp} {p : Addr} {o : HO} (s : Same F H) (n : H p = none) : Ext F H (upd F p o) (upd H p o) := by
  have nf : F p = none := s.free n
  refine ⟨fun b u e => by rw [upd_ne (ne_of_none e nf)]; exact e, fun b u e => by rw [upd_ne (ne_of_none e n)]; exact e, fun b u e => ?_, fun b u e1 e2 => ?_⟩
  · by_cases hb : b = p
    · subst hb; rw [upd_same] at e ⊢; exact e
    · rw [upd_ne hb] at e ⊢; exact s b u e
  · by_cases hb : b = p
    · subst hb; exact n
    · rw [upd_ne hb] at e1; rw [e1] at e2; cases e2
/-- a new object beside the frozen part -/
theorem Ext.beside {F H : Hp} {p : Addr} {o : HO} (s : Same F H) (n : H p = none) : Ext F H F (upd H p o) :=
  ⟨.refl _, fun b u e => by rw [upd_ne (ne_of_none e n)]; exact e, fun b u e => by rw [upd_ne (ne_of_none e (s.free n))]; exact s b u e, fun b u e1 e2 => by rw [e1] at e2; cases e2⟩
/-- an object that stands beside is frozen -/
theorem Ext.freeze {F H : Hp} {p : Addr} {o : HO} {F' H' : Hp} (x : Ext F H F' H') (n : H p = none) (n' : F' p = none) (h : H' p = some o) : Ext F H (upd F' p o) H' := by
  refine ⟨fun b u e => ?_, x.h, fun b u e => ?_, fun b u e1 e2 => ?_⟩
  · rw [upd_ne (ne_of_none (x.f b u e) n')]; exact x.f b u e
  · by_cases hb : b = p
    · subst hb; rw [upd_same] at e; rw [← e]; exact h
    · rw [upd_ne hb] at e; exact x.sub b u e
  · by_cases hb : b = p
    · subst hb; exact n
    · rw [upd_ne hb] at e1; exact x.new b u e1 e2
theorem EOk.ext {K : PySem.W.Frag} {ρ : Env} {F F' H H' : Hp} {σ : St} {M : Nat → Mini} (x : EOk K ρ F σ H M) (e : Ext F H F' H') : EOk K ρ F' σ H' M where
  len := x.len
  sub := e.sub
  at_ := fun i S h => by
    obtain ⟨v, h1, h2⟩ := x.at_ i S h
    exact ⟨v, h1, S.mono K F F' v (M i) e.f h2⟩
  own := fun i a o h => by
    obtain ⟨h1, h2⟩ := x.own i a o h
    refine ⟨e.h a o h1, ?_⟩
    cases q : F' a with
    | none => rfl
    | some u =>
      have z := e.new a u q h2
      rw [z] at h1; cases h1
  apart := x.apart

/-! ### the judgements -/
abbrev Wc := Ec → St → Hp → Prop
/-- an expression: what it gives, or what it raises -/
def EvR (X : Cx) (W : Wc) (ρ : Env) (e : Expr) (r : Except Ec PyData) : Prop :=
  ∀ (pins : List (Addr × Obj)) (s : Shared) (σ : St) (F H : Hp) (M : Nat → Mini) (Q : VK), Inv X pins σ H s → EOk X.K ρ F σ H M →
    (∀ d, r = .ok d → ∀ v F' H', Ext F H F' H' → Dq X.K F' v d → Q v H') → (∀ c, r = .error c → ∀ F' H', Ext F H F' H' → W c σ H') →
    wpAny (model X.prog X.w) X.A (eval e X.env) (EP X pins σ Q) X.xe s
abbrev Ev (X : Cx) (W : Wc) (ρ : Env) (e : Expr) (d : PyData) : Prop := EvR X W ρ e (.ok d)
/-- a list that is read: frozen, or owned by a name -/
def LV (K : PySem.W.Frag) (F H : Hp) (v : V) (ds : List PyData) : Prop := ∃ a vs, v = .ref a ∧ Rd H a (.lst vs) ∧ DqAll K F vs ds
/-- .. or known to the module -/
def LW (K : PySem.W.Frag) (F H : Hp) (v : V) (ds : List PyData) : Prop := ∃ a vs, v = .ref a ∧ SqL K H a vs ∧ DqAll K F vs ds
def Bw (X : Cx) (W : Wc) (ρ : Env) (e : Expr) (ds : List PyData) : Prop :=
  ∀ (pins : List (Addr × Obj)) (s : Shared) (σ : St) (F H : Hp) (M : Nat → Mini) (Q : VK), Inv X pins σ H s → EOk X.K ρ F σ H M →
    (∀ v F' H', Ext F H F' H' → LW X.K F' H' v ds → Q v H') →
    wpAny (model X.prog X.w) X.A (eval e X.env) (EP X pins σ Q) X.xe s
def Bv (X : Cx) (W : Wc) (ρ : Env) (e : Expr) (ds : List PyData) : Prop :=
  ∀ (pins : List (Addr × Obj)) (s : Shared) (σ : St) (F H : Hp) (M : Nat → Mini) (Q : VK), Inv X pins σ H s → EOk X.K ρ F σ H M →
    (∀ v F' H', Ext F H F' H' → LV X.K F' H' v ds → Q v H') →
    wpAny (model X.prog X.w) X.A (eval e X.env) (EP X pins σ Q) X.xe s
/-- a new list -/
def Fr (X : Cx) (W : Wc) (ρ : Env) (e : Expr) (ds : List PyData) : Prop :=
  ∀ (pins : List (Addr × Obj)) (s : Shared) (σ : St) (F H : Hp) (M : Nat → Mini) (Q : VK), Inv X pins σ H s → EOk X.K ρ F σ H M →
    (∀ a vs F' H', Ext F H F' H' → H a = none → F' a = none → H' a = some (.lst vs) → DqAll X.K F' vs ds → Q (.ref a) H') →
    wpAny (model X.prog X.w) X.A (eval e X.env) (EP X pins σ Q) X.xe s
/-- a test -/
def Tst (X : Cx) (W : Wc) (ρ : Env) (e : Expr) (b : Bool) : Prop :=
  ∀ (pins : List (Addr × Obj)) (s : Shared) (σ : St) (F H : Hp) (M : Nat → Mini) (Q : Bool → Hp → Prop), Inv X pins σ H s → EOk X.K ρ F σ H M →
    (∀ F' H', Ext F H F' H' → Q b H') →
    wpAny (model X.prog X.w) X.A (isTrue e X.env (eval e X.env)) (TP X pins σ Q) X.xe s
/-- an argument list -/
def EvA (X : Cx) (W : Wc) (ρ : Env) (es : List Expr) (r : Except Ec (List PyData)) : Prop :=
  ∀ (pos : Pos) (pins : List (Addr × Obj)) (s : Shared) (σ : St) (F H : Hp) (M : Nat → Mini) (Q : List V → Hp → Prop), Inv X pins σ H s → EOk X.K ρ F σ H M →
    (∀ ds, r = .ok ds → ∀ vs F' H', Ext F H F' H' → DqAll X.K F' vs ds → Q vs H') → (∀ c, r = .error c → ∀ F' H', Ext F H F' H' → W c σ H') →
    wpAny (model X.prog X.w) X.A (spliced (backTo pos (starEach es X.env))) (AP X pins σ Q) X.xe s

section
variable {X : Cx} {W : Wc} {ρ : Env} {e : Expr} {es : List Expr}
/-- the readings of these, for the rules of HandS -/
def tR (X : Cx) (W : Wc) (ρ : Env) (r : Except Ec PyData) : TE := fun σ H Q => ∃ F M, EOk X.K ρ F σ H M ∧
  (∀ d, r = .ok d → ∀ v F' H', Ext F H F' H' → Dq X.K F' v d → Q v H') ∧ (∀ c, r = .error c → ∀ F' H', Ext F H F' H' → W c σ H')
theorem EvR.pe {r : Except Ec PyData} (h : EvR X W ρ e r) : PE X e (tR X W ρ r) := ⟨fun pins s σ H Q I ⟨F, M, ok, h1, h2⟩ => h pins s σ F H M Q I ok h1 h2⟩
def tBv (X : Cx) (ρ : Env) (ds : List PyData) : TE := fun σ H Q => ∃ F M, EOk X.K ρ F σ H M ∧ (∀ v F' H', Ext F H F' H' → LV X.K F' H' v ds → Q v H')
theorem Bv.pe {ds : List PyData} (h : Bv X W ρ e ds) : PE X e (tBv X ρ ds) := ⟨fun pins s σ H Q I ⟨F, M, ok, h1⟩ => h pins s σ F H M Q I ok h1⟩
theorem Bv.bw {ds : List PyData} (h : Bv X W ρ e ds) : Bw X W ρ e ds := fun pins s σ F H M Q I ok q => h pins s σ F H M Q I ok fun v F' H' x ⟨a, vs, h1, h2, h3⟩ => q v F' H' x ⟨a, vs, h1, .inl h2, h3⟩
def tBw (X : Cx) (ρ : Env) (ds : List PyData) : TE := fun σ H Q => ∃ F M, EOk X.K ρ F σ H M ∧ (∀ v F' H', Ext F H F' H' → LW X.K F' H' v ds → Q v H')
theorem Bw.pe {ds : List PyData} (h : Bw X W ρ e ds) : PE X e (tBw X ρ ds) := ⟨fun pins s σ H Q I ⟨F, M, ok, h1⟩ => h pins s σ F H M Q I ok h1⟩
def tTst (X : Cx) (ρ : Env) (b : Bool) : TT := fun σ H Q => ∃ F M, EOk X.K ρ F σ H M ∧ (∀ F' H', Ext F H F' H' → Q b H')
theorem Tst.pt {b : Bool} (h : Tst X W ρ e b) : PT X e (tTst X ρ b) := ⟨fun pins s σ H Q I ⟨F, M, ok, h1⟩ => h pins s σ F H M Q I ok h1⟩
def tEvA (X : Cx) (W : Wc) (ρ : Env) (r : Except Ec (List PyData)) : TA := fun σ H Q => ∃ F M, EOk X.K ρ F σ H M ∧
  (∀ ds, r = .ok ds → ∀ vs F' H', Ext F H F' H' → DqAll X.K F' vs ds → Q vs H') ∧ (∀ c, r = .error c → ∀ F' H', Ext F H F' H' → W c σ H')
theorem EvA.pa {r : Except Ec (List PyData)} (h : EvA X W ρ es r) : PA X es (tEvA X W ρ r) := ⟨fun pos pins s σ H Q I ⟨F, M, ok, h1, h2⟩ => h pos pins s σ F H M Q I ok h1 h2⟩

/-- from a rule of HandS: its reading, by the environment -/
theorem ev_of {t : TE} {r : Except Ec PyData} (h : PE X e t) (q : ∀ (σ : St) (F H : Hp) (M : Nat → Mini) (Q : VK), EOk X.K ρ F σ H M →
    (∀ d, r = .ok d → ∀ v F' H', Ext F H F' H' → Dq X.K F' v d → Q v H') → (∀ c, r = .error c → ∀ F' H', Ext F H F' H' → W c σ H') → t σ H Q) : EvR X W ρ e r :=
  fun pins s σ F H M Q I ok h1 h2 => h.run pins s σ H Q I (q σ F H M Q ok h1 h2)
theorem ev1_of {t : TE} {d : PyData} (h : PE X e t) (q : ∀ (σ : St) (F H : Hp) (M : Nat → Mini) (Q : VK), EOk X.K ρ F σ H M →
    (∀ v F' H', Ext F H F' H' → Dq X.K F' v d → Q v H') → t σ H Q) : Ev X W ρ e d :=
  fun pins s σ F H M Q I ok h1 _ => h.run pins s σ H Q I (q σ F H M Q ok (h1 d rfl))
theorem tst_of {t : TT} {b : Bool} (h : PT X e t) (q : ∀ (σ : St) (F H : Hp) (M : Nat → Mini) (Q : Bool → Hp → Prop), EOk X.K ρ F σ H M → (∀ F' H', Ext F H F' H' → Q b H') → t σ H Q) : Tst X W ρ e b :=
  fun pins s σ F H M Q I ok h1 => h.run pins s σ H Q I (q σ F H M Q ok h1)
/-- the reading of a part whose value is known -/
theorem rd {d : PyData} {σ : St} {F H : Hp} {M : Nat → Mini} {Q : VK} (ok : EOk X.K ρ F σ H M) (h : ∀ v F' H', Ext F H F' H' → Dq X.K F' v d → Q v H') : tR X W ρ (.ok d) σ H Q :=
  ⟨F, M, ok, fun d' e => by cases e; exact h, fun c e => by cases e⟩

/-! ### names and constants -/
theorem ev_var (i : Nat) {x : Str} {pos : Pos} {d : PyData} (hd : ρ[i]? = some (some (fz d))) (hN : X.N[i]? = some x := by rfl) (hv : Vis X.env.scope x := by first | exact Or.inl rfl | exact Or.inr (Or.inl rfl) | exact Or.inr (Or.inr rfl))
    (h1 : (x == ("__debug__" : Str)) = false := by decide) (h2 : (x == ("__classdict__" : Str)) = false := by decide) : Ev X W ρ (.Name x pos) d :=
  ev1_of (pe_var hN hv h1 h2) fun σ F H M Q ok h => by
    obtain ⟨v, e, _, q⟩ := ok.at_ i _ hd
    exact ⟨v, e, h v F H (.refl ok.sub) q⟩
theorem bv_var (i : Nat) {x : Str} {pos : Pos} {p : Option Addr} {ds : List PyData} (hd : ρ[i]? = some (some (ow p ds))) (hN : X.N[i]? = some x := by rfl) (hv : Vis X.env.scope x := by first | exact Or.inl rfl | exact Or.inr (Or.inl rfl) | exact Or.inr (Or.inr rfl))
    (h1 : (x == ("__debug__" : Str)) = false := by decide) (h2 : (x == ("__classdict__" : Str)) = false := by decide) : Bv X W ρ (.Name x pos) ds :=
  fun pins s σ F H M Q I ok h => (pe_var hN hv h1 h2).run pins s σ H Q I (by
    obtain ⟨v, e, a, vs, rfl, em, _, q⟩ := ok.at_ i _ hd
    exact ⟨_, e, h _ F H (.refl ok.sub) ⟨a, vs, rfl, .of (ok.own i a _ (by rw [em]; exact List.mem_cons_self)).1, q⟩⟩)
theorem bw_var (i : Nat) {x : Str} {pos : Pos} {ds : List PyData} (hd : ρ[i]? = some (some (kn ds))) (hN : X.N[i]? = some x := by rfl) (hv : Vis X.env.scope x := by first | exact Or.inl rfl | exact Or.inr (Or.inl rfl) | exact Or.inr (Or.inr rfl))
    (h1 : (x == ("__debug__" : Str)) = false := by decide) (h2 : (x == ("__classdict__" : Str)) = false := by decide) : Bw X W ρ (.Name x pos) ds :=
  fun pins s σ F H M Q I ok h => (pe_var hN hv h1 h2).run pins s σ H Q I (by
    obtain ⟨v, e, _, a, vs, rfl, q1, q2⟩ := ok.at_ i _ hd
    exact ⟨_, e, h _ F H (.refl ok.sub) ⟨a, vs, rfl, ok.sub.seq q1, q2⟩⟩)
theorem ev_int {i : Int} {j pos} : Ev X W ρ (.Constant (.int i) j pos) (.int i) := ev1_of pe_int fun σ F H M Q ok h => h _ F H (.refl ok.sub) (.int i)
theorem ev_bl {b j pos} : Ev X W ρ (.Constant (.bool b) j pos) (.bool b) := ev1_of pe_bl fun σ F H M Q ok h => h _ F H (.refl ok.sub) (.bl b)
theorem ev_non {j pos} : Ev X W ρ (.Constant .none j pos) .none := ev1_of pe_non fun σ F H M Q ok h => h _ F H (.refl ok.sub) .non
theorem ev_str {x j pos} : Ev X W ρ (.Constant (.str x) j pos) (.str x) := ev1_of pe_str fun σ F H M Q ok h => h _ F H (.refl ok.sub) (.str x)

/-! ### two parts, by an operator on scalars -/
variable {a b : Expr} {pos : Pos}
theorem ev_op {op : Operator} {r : R2} {da db d : PyData} (ho : OpR X (binaryOp op) r) (ha : Ev X W ρ a da) (hb : Ev X W ρ b db)
    (q : ∀ (x y : V) (F H : Hp) (Q : VK), Same F H → Dq X.K F x da → Dq X.K F y db → (∀ v F' H', Ext F H F' H' → Dq X.K F' v d → Q v H') → r x y H Q) : Ev X W ρ (.BinOp a op b pos) d :=
  ev1_of (pe_op ho ha.pe hb.pe) fun σ F H M Q ok h => rd ok fun x F1 H1 e1 dx => rd (ok.ext e1) fun y F2 H2 e2 dy =>
    q x y F2 H2 Q e2.sub (dq_mono e2.f _ _ dx) dy fun v F' H' e3 dv => h v F' H' ((e1.trans e2).trans e3) dv
theorem dq_int {K : PySem.W.Frag} {F : Hp} {x : V} {i : Int} (h : Dq K F x (.int i)) : x = .int i := by cases h; rfl
theorem dq_bl {K : PySem.W.Frag} {F : Hp} {x : V} {i : Bool} (h : Dq K F x (.bool i)) : x = .bl i := by cases h; rfl
theorem dq_str {K : PySem.W.Frag} {F : Hp} {x : V} {i : Str} (h : Dq K F x (.str i)) : x = .str i := by cases h; rfl
theorem dq_non {K : PySem.W.Frag} {F : Hp} {x : V} (h : Dq K F x .none) : x = .non := by cases h; rfl
variable {i j : Int}
theorem ev_add (ha : Ev X W ρ a (.int i)) (hb : Ev X W ρ b (.int j)) : Ev X W ρ (.BinOp a .Add b pos) (.int (i + j)) :=
  ev_op op_add ha hb fun x y F H Q s dx dy h => ⟨i, j, dq_int dx, dq_int dy, h _ F H (.refl s) (.int _)⟩
theorem ev_sub (ha : Ev X W ρ a (.int i)) (hb : Ev X W ρ b (.int j)) : Ev X W ρ (.BinOp a .Sub b pos) (.int (i - j)) :=
  ev_op op_sub ha hb fun x y F H Q s dx dy h => ⟨i, j, dq_int dx, dq_int dy, h _ F H (.refl s) (.int _)⟩
theorem ev_mul (c : CMul i j) (ha : Ev X W ρ a (.int i)) (hb : Ev X W ρ b (.int j)) : Ev X W ρ (.BinOp a .Mult b pos) (.int (i * j)) :=
  ev_op op_mul ha hb fun x y F H Q s dx dy h => ⟨i, j, dq_int dx, dq_int dy, c, h _ F H (.refl s) (.int _)⟩
theorem ev_fdiv (c : 0 < j ∧ j < 1073741824) (ha : Ev X W ρ a (.int i)) (hb : Ev X W ρ b (.int j)) : Ev X W ρ (.BinOp a .FloorDiv b pos) (.int (i / j)) :=
  ev_op op_fdiv ha hb fun x y F H Q s dx dy h => ⟨i, j, dq_int dx, dq_int dy, c, h _ F H (.refl s) (.int _)⟩
theorem ev_mod (c : 0 < j) (ha : Ev X W ρ a (.int i)) (hb : Ev X W ρ b (.int j)) : Ev X W ρ (.BinOp a .Mod b pos) (.int (i % j)) :=
  ev_op op_mod ha hb fun x y F H Q s dx dy h => ⟨i, j, dq_int dx, dq_int dy, c, h _ F H (.refl s) (.int _)⟩
theorem ev_pow (c : CPow i j) (ha : Ev X W ρ a (.int i)) (hb : Ev X W ρ b (.int j)) : Ev X W ρ (.BinOp a .Pow b pos) (.int (i ^ j.toNat)) :=
  ev_op op_pow ha hb fun x y F H Q s dx dy h => ⟨i, j, dq_int dx, dq_int dy, c, h _ F H (.refl s) (.int _)⟩
theorem ev_neg (ha : Ev X W ρ a (.int i)) : Ev X W ρ (.UnaryOp .USub a pos) (.int (-i)) :=
  ev1_of (pe_un un_neg ha.pe) fun σ F H M Q ok h => rd ok fun x F1 H1 e1 dx => ⟨i, dq_int dx, h _ F1 H1 e1 (.int _)⟩
theorem ev_adds {x y : Str} (c : x.length + y.length ≤ sizeLine) (ha : Ev X W ρ a (.str x)) (hb : Ev X W ρ b (.str y)) : Ev X W ρ (.BinOp a .Add b pos) (.str (x ++ y)) :=
  ev_op op_add_str ha hb fun u v F H Q s dx dy h => ⟨x, y, dq_str dx, dq_str dy, c, h _ F H (.refl s) (.str _)⟩
end
end PV

/-! The pure-value layer: statements. -/
namespace PV
open PySem PySem.Spec PyProof.Rows L2

/-- as EOk, over what the body must leave as it is (B) and what was frozen at its entry (F0) -/
structure PInv (K : PySem.W.Frag) (B F0 : Hp) (ρ : Env) (F : Hp) (σ : St) (H : Hp) (M : Nat → Mini) : Prop where
  ok : EOk K ρ F σ H M
  base : Same B H
  f0 : Same F0 F
  nb : ∀ (a : Addr) (o : HO), F a = some o → F0 a = none → B a = none
  mb : ∀ (i : Nat) (a : Addr) (o : HO), (a, o) ∈ M i → B a = none
section
variable {K : PySem.W.Frag} {B F0 F F' H H' : Hp} {ρ : Env} {σ : St} {M : Nat → Mini}
theorem PInv.ext (x : PInv K B F0 ρ F σ H M) (e : Ext F H F' H') : PInv K B F0 ρ F' σ H' M where
  ok := x.ok.ext e
  base := x.base.trans e.h
  f0 := x.f0.trans e.f
  nb := fun a o h1 h2 => by
    cases q : F a with
    | none => exact x.base.free (e.new a o h1 q)
    | some u => exact x.nb a u q h2
  mb := x.mb
def upM (M : Nat → Mini) (i : Nat) (m : Mini) : Nat → Mini := fun j => if j = i then m else M j
theorem upM_same {i : Nat} {m : Mini} : upM M i m i = m := if_pos rfl
theorem upM_ne {i j : Nat} {m : Mini} (h : j ≠ i) : upM M i m j = M j := if_neg h
/-- a name gets a value and what it owns -/
theorem PInv.set {i : Nat} {S : Slot} {v : V} {m : Mini} (x : PInv K B F0 ρ F σ H M) (hS : S.R K F v m)
    (hm : ∀ (a : Addr) (o : HO), (a, o) ∈ m → H a = some o ∧ F a = none ∧ B a = none ∧ ∀ (j : Nat) (o' : HO), j ≠ i → (a, o') ∉ M j) : PInv K B F0 (ρ.set i (some S)) F (σ.set i (some v)) H (upM M i m) where
  ok := {
    len := by rw [List.length_set, List.length_set]; exact x.ok.len
    sub := x.ok.sub
    at_ := fun j T h => by
      by_cases hj : j = i
      · subst hj
        have hl : j < ρ.length := by
          have := (List.getElem?_eq_some_iff.mp h).1
          simpa using this
        rw [List.getElem?_set_self hl] at h
        cases h
        exact ⟨v, List.getElem?_set_self (by rw [x.ok.len]; exact hl), by rw [upM_same]; exact hS⟩
      · rw [List.getElem?_set_ne (Ne.symm hj)] at h
        obtain ⟨u, h1, h2⟩ := x.ok.at_ j T h
        exact ⟨u, by rw [List.getElem?_set_ne (Ne.symm hj)]; exact h1, by rw [upM_ne hj]; exact h2⟩
    own := fun j a o h => by
      by_cases hj : j = i
      · subst hj; rw [upM_same] at h; exact ⟨(hm a o h).1, (hm a o h).2.1⟩
      · rw [upM_ne hj] at h; exact x.ok.own j a o h
    apart := fun j k a o o' h h' => by
      by_cases hj : j = i
      · by_cases hk : k = i
        · rw [hj, hk]
        · subst hj
          rw [upM_same] at h; rw [upM_ne hk] at h'
          exact absurd h' ((hm a o h).2.2.2 k o' hk)
      · by_cases hk : k = i
        · subst hk
          rw [upM_same] at h'; rw [upM_ne hj] at h
          exact absurd h ((hm a o' h').2.2.2 j o hj)
        · rw [upM_ne hj] at h; rw [upM_ne hk] at h'
          exact x.ok.apart j k a o o' h h' }
  base := x.base
  f0 := x.f0
  nb := x.nb
  mb := fun j a o h => by
    by_cases hj : j = i
    · subst hj; rw [upM_same] at h; exact (hm a o h).2.2.1
    · rw [upM_ne hj] at h; exact x.mb j a o h
theorem PInv.setF {i : Nat} {d : PyData} {v : V} (x : PInv K B F0 ρ F σ H M) (hd : Dq K F v d) : PInv K B F0 (ρ.set i (some (fz d))) F (σ.set i (some v)) H (upM M i []) :=
  x.set ⟨rfl, hd⟩ fun a o h => nomatch h
/-- a list that is new behind an expression -/
theorem PInv.setO {i : Nat} {a : Addr} {vs : List V} {ds : List PyData} (x : PInv K B F0 ρ F σ H M) (e : Ext F H F' H') (n : H a = none) (n' : F' a = none) (h : H' a = some (.lst vs)) (q : DqAll K F' vs ds) :
    PInv K B F0 (ρ.set i (some (ow none ds))) F' (σ.set i (some (.ref a))) H' (upM M i [(a, .lst vs)]) :=
  (x.ext e).set ⟨a, vs, rfl, rfl, (fun q h => nomatch h), q⟩ fun b o hb => by
    have hb' : (b, o) = (a, HO.lst vs) := by simpa using hb
    cases hb'
    refine ⟨h, n', x.base.free n, fun j o' hj hm => ?_⟩
    have z := (x.ok.own j _ o' hm).1
    rw [n] at z; cases z
/-- ρ' knows less -/
def Wk (ρ ρ' : Env) : Prop := ρ'.length = ρ.length ∧ ∀ (i : Nat) (S : Slot), ρ'[i]? = some (some S) → ρ[i]? = some (some S)
theorem PInv.weak {ρ' : Env} (x : PInv K B F0 ρ F σ H M) (w : Wk ρ ρ') : PInv K B F0 ρ' F σ H M where
  ok := ⟨by rw [w.1]; exact x.ok.len, x.ok.sub, fun i S h => x.ok.at_ i S (w.2 i S h), x.ok.own, x.ok.apart⟩
  base := x.base
  f0 := x.f0
  nb := x.nb
  mb := x.mb
/-- an owned list changes -/
theorem PInv.mut {i : Nat} {p : Option Addr} {ds es : List PyData} {a : Addr} {vs ws : List V} (x : PInv K B F0 ρ F σ H M) (hi : ρ[i]? = some (some (ow p ds))) (hσ : σ[i]? = some (some (.ref a))) (hp : ∀ q, p = some q → a = q)
    (hM : M i = [(a, .lst vs)]) (q : DqAll K F ws es) : PInv K B F0 (ρ.set i (some (ow p es))) F σ (upd H a (.lst ws)) (upM M i [(a, .lst ws)]) := by
  have hmem : (a, HO.lst vs) ∈ M i := by rw [hM]; exact List.mem_cons_self
  have hF : F a = none := (x.ok.own i a _ hmem).2
  have hB : B a = none := x.mb i a _ hmem
  refine ⟨⟨by rw [List.length_set]; exact x.ok.len, fun b u e => ?_, fun j T h => ?_, fun j b o h => ?_, fun j k b o o' h h' => ?_⟩, fun b u e => ?_, x.f0, x.nb, fun j b o h => ?_⟩
  · rw [upd_ne (ne_of_none e hF)]; exact x.ok.sub b u e
  · by_cases hj : j = i
    · subst hj
      have hl : j < ρ.length := (List.getElem?_eq_some_iff.mp hi).1
      rw [List.getElem?_set_self hl] at h
      cases h
      exact ⟨_, hσ, a, ws, rfl, upM_same, hp, q⟩
    · rw [List.getElem?_set_ne (Ne.symm hj)] at h
      obtain ⟨u, h1, h2⟩ := x.ok.at_ j T h
      exact ⟨u, h1, by rw [upM_ne hj]; exact h2⟩
  · by_cases hj : j = i
    · subst hj
      rw [upM_same] at h
      have h' : (b, o) = (a, HO.lst ws) := by simpa using h
      cases h'
      exact ⟨upd_same, hF⟩
    · rw [upM_ne hj] at h
      have hb : b ≠ a := fun z => by subst z; exact hj (x.ok.apart j i b _ _ h hmem)
      rw [upd_ne hb]
      exact x.ok.own j b o h
  · have key : ∀ (l : Nat) (u : HO), (b, u) ∈ upM M i [(a, HO.lst ws)] l → ∃ u', (b, u') ∈ M l := fun l u hl => by
      by_cases hi' : l = i
      · subst hi'
        rw [upM_same] at hl
        have h' : (b, u) = (a, HO.lst ws) := by simpa using hl
        cases h'
        exact ⟨_, hmem⟩
      · rw [upM_ne hi'] at hl; exact ⟨u, hl⟩
    obtain ⟨u1, q1⟩ := key j o h
    obtain ⟨u2, q2⟩ := key k o' h'
    exact x.ok.apart j k b u1 u2 q1 q2
  · rw [upd_ne (ne_of_none e hB)]; exact x.base b u e
  · by_cases hj : j = i
    · subst hj
      rw [upM_same] at h
      have h' : (b, o) = (a, HO.lst ws) := by simpa using h
      cases h'
      exact hB
    · rw [upM_ne hj] at h; exact x.mb j b o h
/-- an owned list is frozen -/
theorem PInv.freeze {i : Nat} {p : Option Addr} {ds : List PyData} (x : PInv K B F0 ρ F σ H M) (hi : ρ[i]? = some (some (ow p ds))) : ∃ F' M', PInv K B F0 (ρ.set i (some (fz (.list ds)))) F' σ H M' := by
  obtain ⟨v, hσ, a, vs, rfl, hM, hp, q⟩ := x.ok.at_ i _ hi
  have hmem : (a, HO.lst vs) ∈ M i := by rw [hM]; exact List.mem_cons_self
  obtain ⟨hH, hF⟩ := x.ok.own i a _ hmem
  have hB : B a = none := x.mb i a _ hmem
  have sF : Same F (upd F a (.lst vs)) := fun b u e => by rw [upd_ne (ne_of_none e hF)]; exact e
  refine ⟨upd F a (.lst vs), upM M i [], ⟨⟨by rw [List.length_set]; exact x.ok.len, fun b u e => ?_, fun j T h => ?_, fun j b o h => ?_, fun j k b o o' h h' => ?_⟩, x.base, x.f0.trans sF, fun b u h1 h2 => ?_, fun j b o h => ?_⟩⟩
  · by_cases hb : b = a
    · subst hb; rw [upd_same] at e; rw [← e]; exact hH
    · rw [upd_ne hb] at e; exact x.ok.sub b u e
  · by_cases hj : j = i
    · subst hj
      have hl : j < ρ.length := (List.getElem?_eq_some_iff.mp hi).1
      rw [List.getElem?_set_self hl] at h
      cases h
      exact ⟨_, hσ, upM_same, .lst (.of upd_same) (dqAll_mono sF _ _ q)⟩
    · rw [List.getElem?_set_ne (Ne.symm hj)] at h
      obtain ⟨u, h1, h2⟩ := x.ok.at_ j T h
      exact ⟨u, h1, by rw [upM_ne hj]; exact T.mono K F _ u _ sF h2⟩
  · by_cases hj : j = i
    · subst hj; rw [upM_same] at h; cases h
    · rw [upM_ne hj] at h
      have hb : b ≠ a := fun z => by subst z; exact hj (x.ok.apart j i b _ _ h hmem)
      rw [upd_ne hb]
      exact x.ok.own j b o h
  · by_cases hj : j = i
    · subst hj; rw [upM_same] at h; cases h
    · by_cases hk : k = i
      · subst hk; rw [upM_same] at h'; cases h'
      · rw [upM_ne hj] at h; rw [upM_ne hk] at h'
        exact x.ok.apart j k b o o' h h'
  · by_cases hb : b = a
    · subst hb; exact hB
    · rw [upd_ne hb] at h1; exact x.nb b u h1 h2
  · by_cases hj : j = i
    · subst hj; rw [upM_same] at h; cases h
    · rw [upM_ne hj] at h; exact x.mb j b o h
/-- a value in front of the names -/
def shM (m : Mini) (M : Nat → Mini) : Nat → Mini
  | 0 => m
  | i + 1 => M i
theorem PInv.push {S : Slot} {v : V} {m : Mini} (x : PInv K B F0 ρ F σ H M) (hS : S.R K F v m)
    (hm : ∀ (a : Addr) (o : HO), (a, o) ∈ m → H a = some o ∧ F a = none ∧ B a = none ∧ ∀ (j : Nat) (o' : HO), (a, o') ∉ M j) : PInv K B F0 (some S :: ρ) F (some v :: σ) H (shM m M) where
  ok := {
    len := by simpa using x.ok.len
    sub := x.ok.sub
    at_ := fun j T h => by
      cases j with
      | zero => simp at h; subst h; exact ⟨v, rfl, hS⟩
      | succ j => exact x.ok.at_ j T (by simpa using h)
    own := fun j a o h => by
      cases j with
      | zero => exact ⟨(hm a o h).1, (hm a o h).2.1⟩
      | succ j => exact x.ok.own j a o h
    apart := fun j k a o o' h h' => by
      cases j with
      | zero =>
        cases k with
        | zero => rfl
        | succ k => exact absurd h' ((hm a o h).2.2.2 k o')
      | succ j =>
        cases k with
        | zero => exact absurd h ((hm a o' h').2.2.2 j o)
        | succ k => exact congrArg (· + 1) (x.ok.apart j k a o o' h h') }
  base := x.base
  f0 := x.f0
  nb := x.nb
  mb := fun j a o h => by
    cases j with
    | zero => exact (hm a o h).2.2.1
    | succ j => exact x.mb j a o h
theorem PInv.pushF {d : PyData} {v : V} (x : PInv K B F0 ρ F σ H M) (hd : Dq K F v d) : PInv K B F0 (some (fz d) :: ρ) F (some v :: σ) H (shM [] M) := x.push ⟨rfl, hd⟩ fun a o h => nomatch h
/-- what a name owns goes to the front -/
theorem PInv.pull {i : Nat} {S : Slot} {v : V} (x : PInv K B F0 ρ F σ H M) (hi : ρ[i]? = some (some S)) (hv : σ[i]? = some (some v)) : ∃ M', PInv K B F0 (some S :: ρ.set i none) F (some v :: σ) H M' := by
  obtain ⟨w, e, q⟩ := x.ok.at_ i S hi
  rw [hv] at e; cases e
  have y : PInv K B F0 (ρ.set i none) F σ H (upM M i []) := by
    refine ⟨⟨by rw [List.length_set]; exact x.ok.len, x.ok.sub, fun j T h => ?_, fun j a o h => ?_, fun j k a o o' h h' => ?_⟩, x.base, x.f0, x.nb, fun j a o h => ?_⟩
    · by_cases hj : j = i
      · subst hj
        have hl : j < ρ.length := (List.getElem?_eq_some_iff.mp hi).1
        rw [List.getElem?_set_self hl] at h
        cases h
      · rw [List.getElem?_set_ne (Ne.symm hj)] at h
        rw [upM_ne hj]; exact x.ok.at_ j T h
    · by_cases hj : j = i
      · subst hj; rw [upM_same] at h; cases h
      · rw [upM_ne hj] at h; exact x.ok.own j a o h
    · by_cases hj : j = i
      · subst hj; rw [upM_same] at h; cases h
      · by_cases hk : k = i
        · subst hk; rw [upM_same] at h'; cases h'
        · rw [upM_ne hj] at h; rw [upM_ne hk] at h'
          exact x.ok.apart j k a o o' h h'
    · by_cases hj : j = i
      · subst hj; rw [upM_same] at h; cases h
      · rw [upM_ne hj] at h; exact x.mb j a o h
  refine ⟨_, y.push q fun a o h => ⟨(x.ok.own i a o h).1, (x.ok.own i a o h).2, x.mb i a o h, fun j o' h' => ?_⟩⟩
  by_cases hj : j = i
  · subst hj; rw [upM_same] at h'; cases h'
  · rw [upM_ne hj] at h'; exact hj (x.ok.apart j i a o' o h' h)
end

inductive Out where
  | next (ρ : Env) | ret (S : Slot) (ρ : Env) | brk (ρ : Env) | cont (ρ : Env) | raise (c : Ec) (ρ : Env)
def EndOk (K : PySem.W.Frag) (W : Wc) (B F0 : Hp) (D : Ends) : Out → Prop
  | .next ρ => ∀ F σ H M, PInv K B F0 ρ F σ H M → D.nx σ H
  | .ret S ρ => ∀ v F σ H M, PInv K B F0 (some S :: ρ) F (some v :: σ) H M → D.rt v H
  | .brk ρ => ∀ F σ H M, PInv K B F0 ρ F σ H M → D.bk σ H
  | .cont ρ => ∀ F σ H M, PInv K B F0 ρ F σ H M → D.ct σ H
  | .raise c ρ => ∀ F σ H M, PInv K B F0 ρ F σ H M → W c σ H
/-- a block ends as Φ tells -/
def Sxs (X : Cx) (W : Wc) (sts : List Stmt) (ρ : Env) (Φ : Out → Prop) : Prop :=
  ∀ (pins : List (Addr × Obj)) (s : Shared) (σ : St) (F H : Hp) (M : Nat → Mini) (B F0 : Hp) (D : Ends), Inv X pins σ H s → PInv X.K B F0 ρ F σ H M → (∀ o, Φ o → EndOk X.K W B F0 D o) →
    wpAny (model X.prog X.w) X.A (execs sts X.env) (SP X pins D) X.xe s
def tSxs (X : Cx) (W : Wc) (sts : List Stmt) : TS := fun D σ H => ∃ ρ Φ F M B F0, Sxs X W sts ρ Φ ∧ PInv X.K B F0 ρ F σ H M ∧ (∀ o, Φ o → EndOk X.K W B F0 D o)
theorem pss_Sxs (X : Cx) (W : Wc) (sts : List Stmt) : PSs X sts (tSxs X W sts) := ⟨fun pins s σ H D I ⟨ρ, Φ, F, M, B, F0, h, ok, q⟩ => h pins s σ F H M B F0 D I ok q⟩
/-- what a block is to reach so that rest follows -/
def thenS (X : Cx) (W : Wc) (rest : List Stmt) (Φ : Out → Prop) : Out → Prop
  | .next ρ => Sxs X W rest ρ Φ
  | o => Φ o
section
variable {X : Cx} {W : Wc} {ρ : Env} {st : Stmt} {rest : List Stmt} {Φ : Out → Prop} {e : Expr} {pos : Pos}
theorem sxs_nil (h : Φ (.next ρ)) : Sxs X W [] ρ Φ := fun pins s σ F H M B F0 D I ok q => wpAny_execs_nil ⟨σ, H, I, q _ h F σ H M ok⟩
theorem sxs_of {t : TS} (h1 : PS X st t)
    (k : ∀ (σ : St) (F H : Hp) (M : Nat → Mini) (B F0 : Hp) (D : Ends), PInv X.K B F0 ρ F σ H M → (∀ o, Φ o → EndOk X.K W B F0 D o) → t { D with nx := tSxs X W rest D } σ H) : Sxs X W (st :: rest) ρ Φ :=
  fun pins s σ F H M B F0 D I ok q => (pss_cons h1 (pss_Sxs X W rest)).run pins s σ H D I (k σ F H M B F0 D ok q)
theorem thenS_ok {D : Ends} {B F0 : Hp} (q : ∀ o, Φ o → EndOk X.K W B F0 D o) : ∀ o, thenS X W rest Φ o → EndOk X.K W B F0 { D with nx := tSxs X W rest D } o
  | .next ρ', h => fun F σ H M ok => ⟨ρ', Φ, F, M, B, F0, h, ok, q⟩
  | .ret S ρ', h => q (.ret S ρ') h
  | .brk ρ', h => q (.brk ρ') h
  | .cont ρ', h => q (.cont ρ') h
  | .raise c ρ', h => q (.raise c ρ') h
theorem sxs_weak {sts : List Stmt} {ρ' : Env} (w : Wk ρ ρ') (h : Sxs X W sts ρ' Φ) : Sxs X W sts ρ Φ := fun pins s σ F H M B F0 D I ok q => h pins s σ F H M B F0 D I (ok.weak w) q
theorem sxs_mono {sts : List Stmt} {Φ' : Out → Prop} (h : Sxs X W sts ρ Φ) (m : ∀ o, Φ o → Φ' o) : Sxs X W sts ρ Φ' := fun pins s σ F H M B F0 D I ok q => h pins s σ F H M B F0 D I ok fun o z => q o (m o z)
theorem sxs_freeze {sts : List Stmt} (i : Nat) {p : Option Addr} {ds : List PyData} (hi : ρ[i]? = some (some (ow p ds))) (h : Sxs X W sts (ρ.set i (some (fz (.list ds)))) Φ) : Sxs X W sts ρ Φ := fun pins s σ F H M B F0 D I ok q => by
  obtain ⟨F', M', ok'⟩ := ok.freeze hi
  exact h pins s σ F' H M' B F0 D I ok' q
/-- the reading of a frozen value within a statement -/
theorem rdR {r : Except Ec PyData} {σ : St} {F H B F0 : Hp} {M : Nat → Mini} {D : Ends} {Q : VK} (ok : PInv X.K B F0 ρ F σ H M) (q : ∀ o, Φ o → EndOk X.K W B F0 D o)
    (h : ∀ d, r = .ok d → ∀ v F' H', PInv X.K B F0 ρ F' σ H' M → Dq X.K F' v d → Q v H') (hr : ∀ c, r = .error c → Φ (.raise c ρ)) : tR X W ρ r σ H Q :=
  ⟨F, M, ok.ok, fun d hd v F' H' x dv => h d hd v F' H' (ok.ext x) dv, fun c hc F' H' x => q _ (hr c hc) F' σ H' M (ok.ext x)⟩
/-- x = e -/
theorem sxs_setR (i : Nat) {x : Str} {pos' : Pos} {r : Except Ec PyData} (he : EvR X W ρ e r) (k : ∀ d, r = .ok d → Sxs X W rest (ρ.set i (some (fz d))) Φ) (kr : ∀ c, r = .error c → Φ (.raise c ρ))
    (hN : X.N.Nodup) (hi : X.N[i]? = some x) (hx : Loc X.env.scope x) (hs : swapsWith e (some (.Name x pos')) pos.line X.env = pure false) (hf : X.fn x = true ∨ X.env.scope.names.lookup x = some .local) :
    Sxs X W (.Assign [.Name x pos'] e pos :: rest) ρ Φ :=
  sxs_of (ps_set hN hi hx he.pe hs hf) fun σ F H M B F0 D ok q => rdR ok q (fun d hd v F' H' ok' dv => ⟨_, Φ, F', _, B, F0, k d hd, ok'.setF dv, q⟩) kr
theorem sxs_set (i : Nat) {x : Str} {pos' : Pos} {d : PyData} (he : Ev X W ρ e d) (k : Sxs X W rest (ρ.set i (some (fz d))) Φ) (hN : X.N.Nodup)
    (hi : X.N[i]? = some x := by rfl) (hx : Loc X.env.scope x := by first | exact Or.inl rfl | exact Or.inr rfl) (hs : swapsWith e (some (.Name x pos')) pos.line X.env = pure false := by rfl)
    (hf : X.fn x = true ∨ X.env.scope.names.lookup x = some .local := by first | exact .inl rfl | exact .inr rfl) :
    Sxs X W (.Assign [.Name x pos'] e pos :: rest) ρ Φ := sxs_setR i he (fun d' hd => by cases hd; exact k) (fun c hc => nomatch hc) hN hi hx hs hf
def tFr (X : Cx) (ρ : Env) (ds : List PyData) : TE := fun σ H Q => ∃ F M, EOk X.K ρ F σ H M ∧ (∀ a vs F' H', Ext F H F' H' → H a = none → F' a = none → H' a = some (.lst vs) → DqAll X.K F' vs ds → Q (.ref a) H')
theorem Fr.pe {ds : List PyData} (h : Fr X W ρ e ds) : PE X e (tFr X ρ ds) := ⟨fun pins s σ H Q I ⟨F, M, ok, h1⟩ => h pins s σ F H M Q I ok h1⟩
/-- x = a new list, owned from then on -/
theorem sxs_setF (i : Nat) {x : Str} {pos' : Pos} {ds : List PyData} (he : Fr X W ρ e ds) (k : Sxs X W rest (ρ.set i (some (ow none ds))) Φ) (hN : X.N.Nodup)
    (hi : X.N[i]? = some x := by rfl) (hx : Loc X.env.scope x := by first | exact Or.inl rfl | exact Or.inr rfl) (hs : swapsWith e (some (.Name x pos')) pos.line X.env = pure false := by rfl)
    (hf : X.fn x = true ∨ X.env.scope.names.lookup x = some .local := by first | exact .inl rfl | exact .inr rfl) :
    Sxs X W (.Assign [.Name x pos'] e pos :: rest) ρ Φ :=
  sxs_of (ps_set hN hi hx he.pe hs hf) fun σ F H M B F0 D ok q => ⟨F, M, ok.ok, fun a vs F' H' x n n' ha dv => ⟨_, Φ, F', _, B, F0, k, ok.setO x n n' ha dv, q⟩⟩
/-- e; its value dropped -/
theorem sxs_exprR {r : Except Ec PyData} (he : EvR X W ρ e r) (k : ∀ d, r = .ok d → Sxs X W rest ρ Φ) (kr : ∀ c, r = .error c → Φ (.raise c ρ)) (hs : swapsWith e none pos.line X.env = pure false := by rfl) : Sxs X W (.Expr e pos :: rest) ρ Φ :=
  sxs_of (ps_expr he.pe hs) fun σ F H M B F0 D ok q => rdR ok q (fun d hd v F' H' ok' dv => ⟨_, Φ, F', _, B, F0, k d hd, ok', q⟩) kr
/-- return e -/
theorem sxs_retR {r : Except Ec PyData} (he : EvR X W ρ e r) (k : ∀ d, r = .ok d → Φ (.ret (fz d) ρ)) (kr : ∀ c, r = .error c → Φ (.raise c ρ)) : Sxs X W (.Return (some e) pos :: rest) ρ Φ :=
  sxs_of (ps_ret he.pe) fun σ F H M B F0 D ok q => rdR ok q (fun d hd v F' H' ok' dv => q _ (k d hd) v F' σ H' _ (ok'.pushF dv)) kr
theorem sxs_ret {d : PyData} (he : Ev X W ρ e d) (k : Φ (.ret (fz d) ρ)) : Sxs X W (.Return (some e) pos :: rest) ρ Φ := sxs_retR he (fun d' hd => by cases hd; exact k) fun c hc => nomatch hc
theorem sxs_retN (k : Φ (.ret (fz .none) ρ)) : Sxs X W (.Return none pos :: rest) ρ Φ :=
  sxs_of ps_retN fun σ F H M B F0 D ok q => q _ k .non F σ H _ (ok.pushF .non)
/-- return of a new list; of an owned one -/
theorem sxs_retF {ds : List PyData} (he : Fr X W ρ e ds) (k : Φ (.ret (ow none ds) ρ)) : Sxs X W (.Return (some e) pos :: rest) ρ Φ :=
  sxs_of (ps_ret he.pe) fun σ F H M B F0 D ok q => ⟨F, M, ok.ok, fun a vs F' H' x n n' ha dv => q _ k (.ref a) F' σ H' _ ((ok.ext x).push ⟨a, vs, rfl, rfl, (fun q h => nomatch h), dv⟩ fun b o hb => by
    have hb' : (b, o) = (a, HO.lst vs) := by simpa using hb
    cases hb'
    refine ⟨ha, n', ok.base.free n, fun j o' hm => ?_⟩
    have z := (ok.ok.own j _ o' hm).1
    rw [n] at z; cases z)⟩
theorem sxs_retO (i : Nat) {x : Str} {pos' : Pos} {S : Slot} (hd : ρ[i]? = some (some S)) (k : Φ (.ret S (ρ.set i none))) (hN : X.N[i]? = some x := by rfl) (hv : Vis X.env.scope x := by first | exact Or.inl rfl | exact Or.inr (Or.inl rfl) | exact Or.inr (Or.inr rfl))
    (h1 : (x == ("__debug__" : Str)) = false := by decide) (h2 : (x == ("__classdict__" : Str)) = false := by decide) : Sxs X W (.Return (some (.Name x pos')) pos :: rest) ρ Φ :=
  sxs_of (ps_ret (pe_var hN hv h1 h2)) fun σ F H M B F0 D ok q => by
    obtain ⟨v, e, _⟩ := ok.ok.at_ i _ hd
    obtain ⟨M', ok'⟩ := ok.pull hd e
    exact ⟨v, e, q _ k v F σ H M' ok'⟩
theorem sxs_pass (k : Sxs X W rest ρ Φ) : Sxs X W (.Pass pos :: rest) ρ Φ := sxs_of ps_pass fun σ F H M B F0 D ok q => ⟨ρ, Φ, F, M, B, F0, k, ok, q⟩
theorem sxs_break (k : Φ (.brk ρ)) : Sxs X W (.Break pos :: rest) ρ Φ := sxs_of ps_break fun σ F H M B F0 D ok q => q _ k F σ H M ok
theorem sxs_continue (k : Φ (.cont ρ)) : Sxs X W (.Continue pos :: rest) ρ Φ := sxs_of ps_continue fun σ F H M B F0 D ok q => q _ k F σ H M ok
theorem sxs_doc {x j pos'} (k : Sxs X W rest ρ Φ) : Sxs X W (.Expr (.Constant (.str x) j pos) pos' :: rest) ρ Φ := sxs_of ps_doc fun σ F H M B F0 D ok q => ⟨ρ, Φ, F, M, B, F0, k, ok, q⟩
/-- if c: a else: b -/
theorem sxs_if {c : Expr} {a b : List Stmt} {t : Bool} (hc : Tst X W ρ c t) (ha : t = true → Sxs X W a ρ (thenS X W rest Φ)) (hb : t = false → Sxs X W b ρ (thenS X W rest Φ)) : Sxs X W (.If c a b pos :: rest) ρ Φ :=
  sxs_of (ps_if hc.pt (pss_Sxs X W a) (pss_Sxs X W b)) fun σ F H M B F0 D ok q => ⟨F, M, ok.ok, fun F' H' x => by
    cases t with
    | true => exact iteT ⟨ρ, _, F', M, B, F0, ha rfl, ok.ext x, thenS_ok q⟩
    | false => exact iteF ⟨ρ, _, F', M, B, F0, hb rfl, ok.ext x, thenS_ok q⟩⟩
/-- .. both ways lead to one environment -/
def joinS (ρ' : Env) (Φ : Out → Prop) : Out → Prop
  | .next ρ => Wk ρ ρ'
  | o => Φ o
theorem sxs_ifJ (ρ' : Env) {c : Expr} {a b : List Stmt} {t : Bool} (hc : Tst X W ρ c t) (ha : t = true → Sxs X W a ρ (joinS ρ' Φ)) (hb : t = false → Sxs X W b ρ (joinS ρ' Φ)) (k : Sxs X W rest ρ' Φ) : Sxs X W (.If c a b pos :: rest) ρ Φ := by
  have m : ∀ o, joinS ρ' Φ o → thenS X W rest Φ o := fun o h => by
    cases o with
    | next ρ1 => exact sxs_weak h k
    | _ => exact h
  exact sxs_if hc (fun h => sxs_mono (ha h) m) fun h => sxs_mono (hb h) m
theorem Wk.refl (ρ : Env) : Wk ρ ρ := ⟨rfl, fun _ _ h => h⟩
end
end PV

/-! The pure-value layer: expressions. -/
namespace PV
open PySem PySem.Spec PyProof.Rows L2

/-- what every body brings along: C where the classes of errors stand, k the room for calls -/
structure Ctx (X : Cx) (C : Ec → Addr) (W : Wc) (k : Nat) : Prop where
  calm : X.calm = true
  room : Room k X.A
  nd : X.N.Nodup
  po : PassesOwn (model X.prog X.w) X.A X.env X.xe
  tk : Takes X (fun cls d σ H => ∃ c, cls = .ref (C c) ∧ d = none ∧ W c σ H)
theorem Ctx.mono {X : Cx} {C : Ec → Addr} {W : Wc} {j k : Nat} (c : Ctx X C W k) (h : j ≤ k) : Ctx X C W j := ⟨c.calm, c.room.mono h, c.nd, c.po, c.tk⟩
/-- the built-ins that no name of the module hides -/
structure Blt (mg : Str → Option Value) : Prop where
  len : mg "len" = none
  range : mg "range" = none
  max : mg "max" = none
  min : mg "min" = none
  enumerate : mg "enumerate" = none
  zip : mg "zip" = none
  isinstance : mg "isinstance" = none
  list : mg "list" = none
  dict : mg "dict" = none
  int : mg "int" = none
  str : mg "str" = none
  bool : mg "bool" = none
  tuple : mg "tuple" = none
  sum : mg "sum" = none
  any : mg "any" = none
  all : mg "all" = none
  sorted : mg "sorted" = none

theorem dq_lst {K : PySem.W.Frag} {F : Hp} {v : V} {ds : List PyData} (h : Dq K F v (.list ds)) : ∃ a vs, v = .ref a ∧ Rd F a (.lst vs) ∧ DqAll K F vs ds := by
  cases h with
  | lst h1 h2 => exact ⟨_, _, rfl, h1, h2⟩
theorem dq_tupH {K : PySem.W.Frag} {F : Hp} {v : V} {ds : List PyData} (h : Dq K F v (.tuple ds)) : ∃ a vs, v = .ref a ∧ F a = some (.tup vs) ∧ DqAll K F vs ds := by
  cases h with
  | tup h1 h2 => exact ⟨_, _, rfl, h1, h2⟩
theorem dq_tup {K : PySem.W.Frag} {F : Hp} {v : V} {ds : List PyData} (h : Dq K F v (.tuple ds)) : ∃ a vs, v = .ref a ∧ SqT K F a vs ∧ DqAll K F vs ds := by
  cases h with
  | tup h1 h2 => exact ⟨_, _, rfl, .of h1, h2⟩
section
variable {X : Cx} {W : Wc} {ρ : Env} {e a b : Expr} {es : List Expr} {pos : Pos} {C : Ec → Addr} {k : Nat}
theorem Ev.bv {ds : List PyData} (h : Ev X W ρ e (.list ds)) : Bv X W ρ e ds := fun pins s σ F H M Q I ok q => h pins s σ F H M Q I ok (fun d hd v F' H' x dv => by
  cases hd
  obtain ⟨p, vs, rfl, h1, h2⟩ := dq_lst dv
  exact q _ F' H' x ⟨p, vs, rfl, same_rd x.sub h1, h2⟩) fun c hc => nomatch hc
theorem Fr.bv {ds : List PyData} (h : Fr X W ρ e ds) : Bv X W ρ e ds := fun pins s σ F H M Q I ok q => h pins s σ F H M Q I ok fun p vs F' H' x n n' hp dv => q _ F' H' x ⟨p, vs, rfl, .of hp, dv⟩
theorem Fr.ev {ds : List PyData} (h : Fr X W ρ e ds) : Ev X W ρ e (.list ds) := fun pins s σ F H M Q I ok q _ => h pins s σ F H M Q I ok fun p vs F' H' x n n' hp dv => by
  have x' := x.freeze n n' hp
  refine q _ rfl _ _ H' x' (.lst (.of upd_same) (dqAll_mono (fun b u e => ?_) _ _ dv))
  rw [upd_ne (ne_of_none e n')]; exact e
/-- readable in the heap as it is -/
def Rv (X : Cx) (W : Wc) (ρ : Env) (e : Expr) (d : PyData) : Prop :=
  ∀ (pins : List (Addr × Obj)) (s : Shared) (σ : St) (F H : Hp) (M : Nat → Mini) (Q : VK), Inv X pins σ H s → EOk X.K ρ F σ H M →
    (∀ v F' H', Ext F H F' H' → Dq X.K H' v d → Q v H') →
    wpAny (model X.prog X.w) X.A (eval e X.env) (EP X pins σ Q) X.xe s
theorem Ev.rv {d : PyData} (h : Ev X W ρ e d) : Rv X W ρ e d := fun pins s σ F H M Q I ok q => h pins s σ F H M Q I ok (fun d' hd v F' H' x dv => by
  cases hd
  exact q v F' H' x (dq_mono x.sub _ _ dv)) fun c hc => nomatch hc
theorem Bv.rv {ds : List PyData} (h : Bv X W ρ e ds) : Rv X W ρ e (.list ds) := fun pins s σ F H M Q I ok q => h pins s σ F H M Q I ok fun v F' H' x ⟨p, vs, e1, h1, h2⟩ => by
  subst e1
  exact q _ F' H' x (.lst h1 (dqAll_mono x.sub _ _ h2))
def tRv (X : Cx) (ρ : Env) (d : PyData) : TE := fun σ H Q => ∃ F M, EOk X.K ρ F σ H M ∧ (∀ v F' H', Ext F H F' H' → Dq X.K H' v d → Q v H')
theorem Rv.pe {d : PyData} (h : Rv X W ρ e d) : PE X e (tRv X ρ d) := ⟨fun pins s σ H Q I ⟨F, M, ok, h1⟩ => h pins s σ F H M Q I ok h1⟩

/-! ### arguments, displays -/
theorem eva_nil : EvA X W ρ [] (.ok []) := fun pos pins s σ F H M Q I ok h _ => pa_nil.run pos pins s σ H Q I (h _ rfl _ F H (.refl ok.sub) .nil)
theorem eva_cons {d : PyData} {ds : List PyData} (ha : Ev X W ρ e d) (hr : EvA X W ρ es (.ok ds)) (hs : starEach (e :: es) X.env = (false, eval e X.env) :: starEach es X.env := by rfl) : EvA X W ρ (e :: es) (.ok (d :: ds)) :=
  fun pos pins s σ F H M Q I ok h _ => (pa_cons ha.pe hr.pa hs).run pos pins s σ H Q I (rd ok fun v F1 H1 x1 dv => ⟨F1, M, ok.ext x1, fun ds' hd vs F2 H2 x2 dvs => by
    cases hd
    exact h _ rfl _ F2 H2 (x1.trans x2) (.cons (dq_mono x2.f _ _ dv) dvs), fun c hc => nomatch hc⟩)
/-- .. where one may raise -/
theorem eva_consR {r : Except Ec PyData} {g : PyData → Except Ec (List PyData)} (ha : EvR X W ρ e r) (hr : ∀ d, r = .ok d → EvA X W ρ es (g d)) (hs : starEach (e :: es) X.env = (false, eval e X.env) :: starEach es X.env := by rfl) :
    EvA X W ρ (e :: es) (r.bind fun d => (g d).map (d :: ·)) := by
  intro pos pins s σ F H M Q I ok h hE
  cases r with
  | ok d =>
    exact (pa_cons ha.pe (hr d rfl).pa hs).run pos pins s σ H Q I (rd ok fun v F1 H1 x1 dv => ⟨F1, M, ok.ext x1, fun ds hd vs F2 H2 x2 dvs => by
      refine h (d :: ds) ?_ _ F2 H2 (x1.trans x2) (.cons (dq_mono x2.f _ _ dv) dvs)
      show (g d).map (d :: ·) = _
      rw [hd]; rfl, fun c hc F2 H2 x2 => by
      refine hE c ?_ F2 H2 (x1.trans x2)
      show (g d).map (d :: ·) = _
      rw [hc]; rfl⟩)
  | error c =>
    have hp : PE X e (fun σ H Q => ∃ F M, EOk X.K ρ F σ H M ∧ ∀ F' H', Ext F H F' H' → W c σ H') := ⟨fun pins s σ H Q I ⟨F, M, ok, z⟩ => ha pins s σ F H M Q I ok (fun d hd => nomatch hd) fun c' hc => by cases hc; exact z⟩
    exact (pa_cons hp (t := fun _ _ _ => False) ⟨fun _ _ _ _ _ _ _ z => z.elim⟩ hs).run pos pins s σ H Q I ⟨F, M, ok, fun F' H' x => hE c rfl F' H' x⟩
/-- arguments of which nothing is kept: readable ones -/
def RvA (X : Cx) (W : Wc) (ρ : Env) (es : List Expr) (ds : List PyData) : Prop :=
  ∀ (pos : Pos) (pins : List (Addr × Obj)) (s : Shared) (σ : St) (F H : Hp) (M : Nat → Mini) (Q : List V → Hp → Prop), Inv X pins σ H s → EOk X.K ρ F σ H M →
    (∀ vs F' H', Ext F H F' H' → DqAll X.K H' vs ds → Q vs H') → wpAny (model X.prog X.w) X.A (spliced (backTo pos (starEach es X.env))) (AP X pins σ Q) X.xe s
def tRvA (X : Cx) (ρ : Env) (ds : List PyData) : TA := fun σ H Q => ∃ F M, EOk X.K ρ F σ H M ∧ (∀ vs F' H', Ext F H F' H' → DqAll X.K H' vs ds → Q vs H')
theorem RvA.pa {ds : List PyData} (h : RvA X W ρ es ds) : PA X es (tRvA X ρ ds) := ⟨fun pos pins s σ H Q I ⟨F, M, ok, h1⟩ => h pos pins s σ F H M Q I ok h1⟩
theorem rva_nil : RvA X W ρ [] [] := fun pos pins s σ F H M Q I ok h => pa_nil.run pos pins s σ H Q I (h _ F H (.refl ok.sub) .nil)
theorem rva_cons {d : PyData} {ds : List PyData} (ha : Rv X W ρ e d) (hr : RvA X W ρ es ds) (hs : starEach (e :: es) X.env = (false, eval e X.env) :: starEach es X.env := by rfl) : RvA X W ρ (e :: es) (d :: ds) :=
  fun pos pins s σ F H M Q I ok h => (pa_cons ha.pe hr.pa hs).run pos pins s σ H Q I ⟨F, M, ok, fun v F1 H1 x1 dv => ⟨F1, M, ok.ext x1, fun vs F2 H2 x2 dvs => h _ F2 H2 (x1.trans x2) (.cons (dq_mono x2.h _ _ dv) dvs)⟩⟩
theorem sz_of {K : PySem.W.Frag} {H : Hp} {vs : List V} {ds : List PyData} (h : DqAll K H vs ds) (c : ds.length ≤ sizeLine) : vs.length ≤ sizeLine := by rw [DqAll_len h]; exact c
theorem small {n : Nat} (h : n ≤ 1000) : n ≤ sizeLine := Nat.le_trans h (by decide)
theorem ev_tup {kk : Nat} {ds : List PyData} (ha : EvA X W ρ es (.ok ds)) (c : ds.length ≤ sizeLine := by exact PV.small (by simp)) : Ev X W ρ (.Tuple es kk pos) (.tuple ds) :=
  ev1_of (pe_tup ha.pa) fun σ F H M Q ok h => ⟨F, M, ok, fun ds' hd vs F' H' x dvs => by
    cases hd
    refine ⟨sz_of dvs c, fun p hp => ?_⟩
    have y := Ext.laid (o := .tup vs) x.sub hp
    exact h _ _ _ (x.trans y) (.tup upd_same (dqAll_mono y.f _ _ dvs)), fun c hc => nomatch hc⟩
theorem fr_lst {ds : List PyData} (ha : EvA X W ρ es (.ok ds)) (c : ds.length ≤ sizeLine := by exact PV.small (by simp)) : Fr X W ρ (.List es pos) ds :=
  fun pins s σ F H M Q I ok h => (pe_lst ha.pa).run pins s σ H Q I ⟨F, M, ok, fun ds' hd vs F' H' x dvs => by
    cases hd
    refine ⟨sz_of dvs c, fun p hp => ?_⟩
    exact h p vs F' _ (x.trans (.beside x.sub hp)) (x.h.free hp) (x.sub.free hp) upd_same dvs, fun c hc => nomatch hc⟩

/-! ### subscripts -/
theorem atI_dq {K : PySem.W.Frag} {H : Hp} {vs : List V} {ds : List PyData} {i : Int} {d : PyData} (h : DqAll K H vs ds) (e : atI ds i = some d) : ∃ v, atI vs i = some v ∧ Dq K H v d := by
  unfold atI at e ⊢
  rw [DqAll_len h]
  cases q : ixN ds.length i with
  | none => rw [q] at e; cases e
  | some j =>
    rw [q] at e
    obtain ⟨v, h1, h2⟩ := DqAll_get h (show ds[j]? = some d from e)
    exact ⟨v, h1, h2⟩
theorem ev_ixT {ds : List PyData} {i : Int} {d : PyData} (ha : Ev X W ρ a (.tuple ds)) (hb : Ev X W ρ b (.int i)) (e : atI ds i = some d) (hs : PlainIx b := by exact fun _ _ => rfl) : Ev X W ρ (.Subscript a b pos) d :=
  ev1_of (pe_ix ix_tup ha.pe hb.pe hs) fun σ F H M Q ok h => rd ok fun x F1 H1 e1 dx => rd (ok.ext e1) fun y F2 H2 e2 dy => by
    obtain ⟨p, vs, rfl, h1, h2⟩ := dq_tup dx
    obtain ⟨v, h3, h4⟩ := atI_dq h2 e
    exact ⟨p, vs, i, v, rfl, dq_int dy, same_seqT (e2.f.trans e2.sub) h1, h3, h v F2 H2 (e1.trans e2) (dq_mono e2.f _ _ h4)⟩
theorem ev_ixL {ds : List PyData} {i : Int} {d : PyData} (ha : Bw X W ρ a ds) (hb : Ev X W ρ b (.int i)) (e : atI ds i = some d) (hs : PlainIx b := by exact fun _ _ => rfl) : Ev X W ρ (.Subscript a b pos) d :=
  ev1_of (pe_ix ix_list ha.pe hb.pe hs) fun σ F H M Q ok h => ⟨F, M, ok, fun x F1 H1 e1 ⟨p, vs, ex, h1, h2⟩ => rd (ok.ext e1) fun y F2 H2 e2 dy => by
    subst ex
    obtain ⟨v, h3, h4⟩ := atI_dq h2 e
    exact ⟨p, vs, i, v, rfl, dq_int dy, e2.h.seq h1, h3, h v F2 H2 (e1.trans e2) (dq_mono e2.f _ _ h4)⟩⟩
theorem ev_ixS {z : Str} {i : Int} {c : Nat} (ha : Ev X W ρ a (.str z)) (hb : Ev X W ρ b (.int i)) (hz : z.length ≤ sizeLine) (e : atI z.cps.toList i = some c) (hs : PlainIx b := by exact fun _ _ => rfl) : Ev X W ρ (.Subscript a b pos) (.str ⟨#[c]⟩) :=
  ev1_of (pe_ix ix_str ha.pe hb.pe hs) fun σ F H M Q ok h => rd ok fun x F1 H1 e1 dx => rd (ok.ext e1) fun y F2 H2 e2 dy =>
    ⟨z, i, c, dq_str dx, dq_int dy, hz, e, h _ F2 H2 (e1.trans e2) (.str _)⟩
/-- the parts of a slice -/
def EvO (X : Cx) (W : Wc) (ρ : Env) (e : Option Expr) (o : Option Int) : Prop := match e, o with
  | none, none => True
  | some e, some i => Ev X W ρ e (.int i)
  | _, _ => False
def tEvO (X : Cx) (ρ : Env) (o : Option Int) : TO := fun σ H Q => ∃ F M, EOk X.K ρ F σ H M ∧ ∀ F' H', Ext F H F' H' → Q o H'
theorem EvO.po {e : Option Expr} {o : Option Int} (h : EvO X W ρ e o) : PO X e (tEvO X ρ o) := by
  cases e with
  | none =>
    cases o with
    | none => exact ⟨fun pins s σ H Q I ⟨F, M, ok, z⟩ => po_none.run pins s σ H Q I (z F H (.refl ok.sub))⟩
    | some i => exact h.elim
  | some e =>
    cases o with
    | none => exact h.elim
    | some i =>
      have h' : Ev X W ρ e (.int i) := h
      exact ⟨fun pins s σ H Q I ⟨F, M, ok, z⟩ => (po_some h'.pe).run pins s σ H Q I (rd ok fun v F' H' x dv => ⟨i, dq_int dv, z F' H' x⟩)⟩
def cutD (xs : List PyData) (lo hi : Option Int) : List PyData := (xs.drop (HT.sIx xs.length 0 lo)).take (HT.sIx xs.length xs.length hi - HT.sIx xs.length 0 lo)
theorem fr_slice {ds : List PyData} {lo hi : Option Expr} {l u : Option Int} {p2 : Pos} (ha : Bw X W ρ a ds) (hl : EvO X W ρ lo l) (hu : EvO X W ρ hi u) : Fr X W ρ (.Subscript a (.Slice lo hi none p2) pos) (cutD ds l u) :=
  fun pins s σ F H M Q I ok h => (pe_slice sl_list ha.pe hl.po hu.po).run pins s σ H Q I ⟨F, M, ok, fun x F1 H1 e1 ⟨p, vs, ex, h1, h2⟩ => ⟨F1, M, ok.ext e1, fun F2 H2 e2 => ⟨F2, M, (ok.ext e1).ext e2, fun F3 H3 e3 => by
    subst ex
    refine ⟨p, vs, rfl, (e2.h.trans e3.h).seq h1, fun q hq => ?_⟩
    have x := (e1.trans e2).trans e3
    have e : DqAll X.K F3 (cutV vs l u) (cutD ds l u) := by
      unfold cutV cutD
      rw [DqAll_len h2]
      exact DqAll_take _ (DqAll_drop _ (dqAll_mono (e2.f.trans e3.f) _ _ h2))
    exact h q _ F3 _ (x.trans (.beside x.sub hq)) (x.h.free hq) (x.sub.free hq) upd_same e⟩⟩⟩
theorem ev_sliceS {z : Str} {lo hi : Option Expr} {l u : Option Int} {p2 : Pos} (ha : Ev X W ρ a (.str z)) (hl : EvO X W ρ lo l) (hu : EvO X W ρ hi u) (c : z.length ≤ sizeLine) : Ev X W ρ (.Subscript a (.Slice lo hi none p2) pos) (.str (cutS z l u)) :=
  ev1_of (pe_slice sl_str ha.pe hl.po hu.po) fun σ F H M Q ok h => rd ok fun x F1 H1 e1 dx => ⟨F1, M, ok.ext e1, fun F2 H2 e2 => ⟨F2, M, (ok.ext e1).ext e2, fun F3 H3 e3 =>
    ⟨z, dq_str dx, c, h _ F3 H3 ((e1.trans e2).trans e3) (.str _)⟩⟩⟩

/-! ### lists put together -/
def rCatR : R2 := fun x y H Q => ∃ l b xs zs, x = .ref l ∧ y = .ref b ∧ Rd H l (.lst xs) ∧ Rd H b (.lst zs) ∧ xs.length + zs.length ≤ sizeLine ∧ ∀ p, H p = none → Q (.ref p) (upd H p (.lst (xs ++ zs)))
theorem rd_obj {pins : List (Addr × Obj)} {σ : St} {H : Hp} {s : Shared} {a : Addr} {xs : List V} (I : Inv X pins σ H s) (h : Rd H a (.lst xs)) : ∃ (its : List Value) (n : Nat), Vals xs its ∧ xs.length = its.length ∧ s.heap.get? a = some { cls := .type "list", data := .seq its.toArray n } ∧ xs.length ≤ sizeLine := by
  obtain ⟨z, its, n, r, e⟩ : ObjOk X.prog X.w H s.heap a (.lst xs) := h.ok I.hok
  exact ⟨its, n, r, r.length, e, z⟩
theorem op_catR : OpR X (binaryOp .Add) rCatR := by
  intro pins s σ H x y v u Q I rx ry h
  obtain ⟨l, b, xs, zs, rfl, rfl, hH, hB, hz, q⟩ := h
  cases rx
  cases ry
  obtain ⟨its, n, r, hl, e, z⟩ := rd_obj I hH
  obtain ⟨its2, n2, r2, hl2, e2, z2⟩ := rd_obj I hB
  refine PySem.P.add_list e e2 ?_ (by rw [List.size_toArray, List.size_toArray]; omega)
  have ea : its.toArray ++ its2.toArray = (its ++ its2).toArray := by simp
  rw [ea]
  exact ⟨.ref _, _, I.lnew (t' := s.toks) (r.append r2) (by rw [List.length_append]; omega), rfl, q _ I.fresh⟩
theorem fr_cat {ds es : List PyData} (ha : Bv X W ρ a ds) (hb : Bv X W ρ b es) (c : ds.length + es.length ≤ sizeLine) : Fr X W ρ (.BinOp a .Add b pos) (ds ++ es) :=
  fun pins s σ F H M Q I ok h => (pe_op op_catR ha.pe hb.pe).run pins s σ H Q I ⟨F, M, ok, fun x F1 H1 e1 ⟨p, vs, ex, h1, h2⟩ => ⟨F1, M, ok.ext e1, fun y F2 H2 e2 ⟨q, ws, ey, h3, h4⟩ => by
    subst ex ey
    have x := e1.trans e2
    refine ⟨p, q, vs, ws, rfl, rfl, same_rd e2.h h1, h3, by rw [DqAll_len h2, DqAll_len h4]; exact c, fun l hl => ?_⟩
    exact h l _ F2 _ (x.trans (.beside x.sub hl)) (x.h.free hl) (x.sub.free hl) upd_same (DqAll_app (dqAll_mono e2.f _ _ h2) h4)⟩⟩
/-- list(x) -/
theorem fr_list {p : Pos} {ds : List PyData} (B : Blt X.mg) (ha : Bw X W ρ a ds) (hg : Gl X "list" := by rfl) (he : starEach (a :: []) X.env = (false, eval a X.env) :: starEach [] X.env := by rfl) : Fr X W ρ (.Call (.Name "list" p) [a] [] pos) ds :=
  fun pins s σ F H M Q I ok h => (pe_callTy call_list_of hg B.list (by decide +kernel) (pa_cons ha.pe pa_nil he) (he := he)).run pins s σ H Q I ⟨F, M, ok, fun x F1 H1 e1 ⟨p, vs, ex, h1, h2⟩ => by
    subst ex
    exact ⟨p, vs, rfl, .inl h1, fun l hl => h l _ F1 _ (e1.trans (.beside e1.sub hl)) (e1.h.free hl) (e1.sub.free hl) upd_same h2⟩⟩
/-- len(x) -/
theorem ev_len {p : Pos} {ds : List PyData} (B : Blt X.mg) (ha : Bw X W ρ a ds) (hg : Gl X "len" := by rfl) (he : starEach (a :: []) X.env = (false, eval a X.env) :: starEach [] X.env := by rfl) : Ev X W ρ (.Call (.Name "len" p) [a] [] pos) (.int ds.length) :=
  ev1_of (pe_callB call_len_seq hg B.len PySem.boot_len (pa_cons ha.pe pa_nil he) (he := he)) fun σ F H M Q ok h => ⟨F, M, ok, fun x F1 H1 e1 ⟨p, vs, ex, h1, h2⟩ => by
    subst ex
    refine ⟨p, vs, rfl, .inl h1, ?_⟩
    rw [DqAll_len h2]
    exact h _ F1 H1 e1 (.int _)⟩
theorem ev_lenS {p : Pos} {z : Str} (B : Blt X.mg) (ha : Ev X W ρ a (.str z)) (c : z.length ≤ sizeLine) (hg : Gl X "len" := by rfl) (he : starEach (a :: []) X.env = (false, eval a X.env) :: starEach [] X.env := by rfl) : Ev X W ρ (.Call (.Name "len" p) [a] [] pos) (.int z.length) :=
  ev1_of (pe_callB call_len_str hg B.len PySem.boot_len (pa_cons ha.pe pa_nil he) (he := he)) fun σ F H M Q ok h => rd ok fun x F1 H1 e1 dx => ⟨z, by rw [dq_str dx], c, h _ F1 H1 e1 (.int _)⟩
theorem ev_lenT {p : Pos} {ds : List PyData} (B : Blt X.mg) (ha : Ev X W ρ a (.tuple ds)) (hg : Gl X "len" := by rfl) (he : starEach (a :: []) X.env = (false, eval a X.env) :: starEach [] X.env := by rfl) : Ev X W ρ (.Call (.Name "len" p) [a] [] pos) (.int ds.length) :=
  ev1_of (pe_callB call_len_seq hg B.len PySem.boot_len (pa_cons ha.pe pa_nil he) (he := he)) fun σ F H M Q ok h => rd ok fun x F1 H1 e1 dx => by
    obtain ⟨p, vs, rfl, h1, h2⟩ := dq_tup dx
    refine ⟨p, vs, rfl, .inr (same_seqT e1.sub h1), ?_⟩
    rw [DqAll_len h2]
    exact h _ F1 H1 e1 (.int _)
/-- max(a, b), min(a, b) -/
theorem ev_max {p : Pos} {i j : Int} (c : Ctx X C W k) (B : Blt X.mg) (ha : Ev X W ρ a (.int i)) (hb : Ev X W ρ b (.int j)) (hg : Gl X "max" := by rfl) (he : starEach (a :: [b]) X.env = (false, eval a X.env) :: starEach [b] X.env := by rfl)
    (he2 : starEach (b :: []) X.env = (false, eval b X.env) :: starEach [] X.env := by rfl) (hpl : (backTo pos (starEach [b] X.env)).any (·.1) = false := by rfl) : Ev X W ρ (.Call (.Name "max" p) [a, b] [] pos) (.int (max i j)) :=
  ev1_of (pe_callB (call_max2 c.calm) hg B.max (by decide +kernel) (pa_cons ha.pe (pa_cons hb.pe pa_nil he2) he) (he := he) (hpl := hpl)) fun σ F H M Q ok h => rd ok fun x F1 H1 e1 dx => rd (ok.ext e1) fun y F2 H2 e2 dy => by
    refine ⟨i, j, by rw [dq_int dx, dq_int dy], ?_⟩
    have e : (if j > i then j else i) = max i j := by rw [Int.max_def]; split <;> split <;> omega
    rw [e]
    exact h _ F2 H2 (e1.trans e2) (.int _)
theorem ev_min {p : Pos} {i j : Int} (c : Ctx X C W k) (B : Blt X.mg) (ha : Ev X W ρ a (.int i)) (hb : Ev X W ρ b (.int j)) (hg : Gl X "min" := by rfl) (he : starEach (a :: [b]) X.env = (false, eval a X.env) :: starEach [b] X.env := by rfl)
    (he2 : starEach (b :: []) X.env = (false, eval b X.env) :: starEach [] X.env := by rfl) (hpl : (backTo pos (starEach [b] X.env)).any (·.1) = false := by rfl) : Ev X W ρ (.Call (.Name "min" p) [a, b] [] pos) (.int (min i j)) :=
  ev1_of (pe_callB (call_min2 c.calm) hg B.min (by decide +kernel) (pa_cons ha.pe (pa_cons hb.pe pa_nil he2) he) (he := he) (hpl := hpl)) fun σ F H M Q ok h => rd ok fun x F1 H1 e1 dx => rd (ok.ext e1) fun y F2 H2 e2 dy => by
    refine ⟨i, j, by rw [dq_int dx, dq_int dy], ?_⟩
    have e : (if j < i then j else i) = min i j := by rw [Int.min_def]; split <;> split <;> omega
    rw [e]
    exact h _ F2 H2 (e1.trans e2) (.int _)
/-- str(n) of a number that is not too long -/
theorem ev_strI {p : Pos} {i : Int} (B : Blt X.mg) (ha : Ev X W ρ a (.int i)) (c : i.natAbs.log2 < 1920) (hg : Gl X "str" := by rfl) (he : starEach (a :: []) X.env = (false, eval a X.env) :: starEach [] X.env := by rfl) : Ev X W ρ (.Call (.Name "str" p) [a] [] pos) (.str (toString i)) :=
  ev1_of (pe_callTy call_str_int hg B.str (by decide +kernel) (pa_cons ha.pe pa_nil he) (he := he)) fun σ F H M Q ok h => rd ok fun x F1 H1 e1 dx => ⟨i, by rw [dq_int dx], c, h _ F1 H1 e1 (.str _)⟩
/-- int(b), int(text) -/
theorem ev_intB {p : Pos} {t : Bool} (B : Blt X.mg) (ha : Ev X W ρ a (.bool t)) (hg : Gl X "int" := by rfl) (he : starEach (a :: []) X.env = (false, eval a X.env) :: starEach [] X.env := by rfl) : Ev X W ρ (.Call (.Name "int" p) [a] [] pos) (.int (if t then 1 else 0)) :=
  ev1_of (pe_callTy call_int1 hg B.int (by decide +kernel) (pa_cons ha.pe pa_nil he) (he := he)) fun σ F H M Q ok h => rd ok fun x F1 H1 e1 dx => .inr ⟨t, by rw [dq_bl dx], h _ F1 H1 e1 (.int _)⟩
theorem ev_intS {p : Pos} {z : Str} {n : Int} (B : Blt X.mg) (ha : Ev X W ρ a (.str z)) (c : PySem.intText? z = some n) (c2 : z.length ≤ 640) (hg : Gl X "int" := by rfl) (he : starEach (a :: []) X.env = (false, eval a X.env) :: starEach [] X.env := by rfl) : Ev X W ρ (.Call (.Name "int" p) [a] [] pos) (.int n) :=
  ev1_of (pe_callTy call_int_str hg B.int (by decide +kernel) (pa_cons ha.pe pa_nil he) (he := he)) fun σ F H M Q ok h => rd ok fun x F1 H1 e1 dx => ⟨z, n, by rw [dq_str dx], c, c2, h _ F1 H1 e1 (.int _)⟩

/-! ### comparisons: of two parts, what comes of them -/
def Cm (X : Cx) (W : Wc) (ρ : Env) (op : CmpOp) (a b : Expr) (y : Bool) : Prop :=
  ∀ (pins : List (Addr × Obj)) (s : Shared) (σ : St) (F H : Hp) (M : Nat → Mini) (Q : VK), Inv X pins σ H s → EOk X.K ρ F σ H M → (∀ F' H', Ext F H F' H' → Q (.bl y) H') →
    wpAny (model X.prog X.w) X.A (eval a X.env) (fun v s₁ => wpAny (model X.prog X.w) X.A (eval b X.env) (fun u s₂ => wpAny (model X.prog X.w) X.A (compareOp op v u) (EP X pins σ Q) X.xe s₂) X.xe s₁) X.xe s
def tCm (X : Cx) (ρ : Env) (y : Bool) : TE := fun σ H Q => ∃ F M, EOk X.K ρ F σ H M ∧ ∀ F' H', Ext F H F' H' → Q (.bl y) H'
theorem Cm.pc {op : CmpOp} {y : Bool} (h : Cm X W ρ op a b y) : PC X op a b (tCm X ρ y) := ⟨fun pins s σ H Q I ⟨F, M, ok, q⟩ => h pins s σ F H M Q I ok q⟩
/-- as a value, as a test -/
theorem ev_cm {op : CmpOp} {y : Bool} (h : Cm X W ρ op a b y) (h1 : behindInMarks op b = false := by first | exact nobehind _ (by decide) (by decide) | rfl) : Ev X W ρ (.Compare a [op] [b] pos) (.bool y) :=
  ev1_of (pe_cmp h.pc h1) fun σ F H M Q ok q => ⟨F, M, ok, fun F' H' x => q _ F' H' x (.bl _)⟩
theorem tst_cm {op : CmpOp} {y : Bool} (h : Cm X W ρ op a b y) (h1 : behindInMarks op b = false := by first | exact nobehind _ (by decide) (by decide) | rfl) : Tst X W ρ (.Compare a [op] [b] pos) y :=
  tst_of (pt_cmp h.pc h1) fun σ F H M Q ok q => ⟨F, M, ok, fun F' H' x => ⟨y, rfl, q F' H' x⟩⟩
theorem cm_of {op : CmpOp} {r : R2} {da db : PyData} {y : Bool} (ho : OpR X (compareOp op) r) (ha : Rv X W ρ a da) (hb : Rv X W ρ b db)
    (q : ∀ (x z : V) (H : Hp) (Q : VK), Dq X.K H x da → Dq X.K H z db → Q (.bl y) H → r x z H Q) : Cm X W ρ op a b y := fun pins s σ F H M Q I ok h =>
  binT ha.pe hb.pe I (R := fun x z H2 => r x z H2 Q) ⟨F, M, ok, fun x F1 H1 e1 dx => ⟨F1, M, ok.ext e1, fun z F2 H2 e2 dz => q x z H2 Q (dq_mono e2.h _ _ dx) dz (h F2 H2 (e1.trans e2))⟩⟩
    fun v u s2 x y H2 I2 rx ry q => ho pins s2 σ H2 x y v u Q I2 rx ry q
variable {i j : Int} {x y : Str}
theorem cm_lt (ha : Ev X W ρ a (.int i)) (hb : Ev X W ρ b (.int j)) : Cm X W ρ .Lt a b (decide (i < j)) := cm_of op_lt ha.rv hb.rv fun x y H Q dx dy h => ⟨i, j, dq_int dx, dq_int dy, h⟩
theorem cm_le (ha : Ev X W ρ a (.int i)) (hb : Ev X W ρ b (.int j)) : Cm X W ρ .LtE a b (decide (i ≤ j)) := cm_of op_le ha.rv hb.rv fun x y H Q dx dy h => ⟨i, j, dq_int dx, dq_int dy, h⟩
theorem cm_gt (ha : Ev X W ρ a (.int i)) (hb : Ev X W ρ b (.int j)) : Cm X W ρ .Gt a b (decide (j < i)) := cm_of op_gt ha.rv hb.rv fun x y H Q dx dy h => ⟨i, j, dq_int dx, dq_int dy, h⟩
theorem cm_ge (ha : Ev X W ρ a (.int i)) (hb : Ev X W ρ b (.int j)) : Cm X W ρ .GtE a b (decide (j ≤ i)) := cm_of op_ge ha.rv hb.rv fun x y H Q dx dy h => ⟨i, j, dq_int dx, dq_int dy, h⟩
theorem dec_I : decide (V.int i = V.int j) = decide (i = j) := by rw [Bool.eq_iff_iff]; simp
theorem dec_S : decide (V.str x = V.str y) = decide (x = y) := by rw [Bool.eq_iff_iff]; simp
theorem cm_eq (ha : Ev X W ρ a (.int i)) (hb : Ev X W ρ b (.int j)) : Cm X W ρ .Eq a b (decide (i = j)) := cm_of op_eq ha.rv hb.rv fun x y H Q dx dy h => by
  rw [dq_int dx, dq_int dy]
  exact ⟨rfl, by rw [dec_I]; exact h⟩
theorem cm_ne (ha : Ev X W ρ a (.int i)) (hb : Ev X W ρ b (.int j)) : Cm X W ρ .NotEq a b (!decide (i = j)) := cm_of op_ne ha.rv hb.rv fun x y H Q dx dy h => by
  rw [dq_int dx, dq_int dy]
  exact ⟨rfl, by rw [dec_I]; exact h⟩
theorem cm_eqS (ha : Ev X W ρ a (.str x)) (hb : Ev X W ρ b (.str y)) : Cm X W ρ .Eq a b (decide (x = y)) := cm_of op_eq ha.rv hb.rv fun x y H Q dx dy h => by
  rw [dq_str dx, dq_str dy]
  exact ⟨rfl, by rw [dec_S]; exact h⟩
theorem cm_neS (ha : Ev X W ρ a (.str x)) (hb : Ev X W ρ b (.str y)) : Cm X W ρ .NotEq a b (!decide (x = y)) := cm_of op_ne ha.rv hb.rv fun x y H Q dx dy h => by
  rw [dq_str dx, dq_str dy]
  exact ⟨rfl, by rw [dec_S]; exact h⟩
theorem cm_eqD {da db : PyData} (c : Ctx X C W k) (ha : Rv X W ρ a da) (hb : Rv X W ρ b db) (sa : SeqAt.shaped da = true) (sb : SeqAt.shaped db = true) : Cm X W ρ .Eq a b (PyData.eqv da db) :=
  cm_of (op_eqD c.room.units) ha hb fun x z H Q h1 h2 q => ⟨da, db, h1.dp _ _, h2.dp _ _, sa, sb, q⟩
theorem cm_neD {da db : PyData} (c : Ctx X C W k) (ha : Rv X W ρ a da) (hb : Rv X W ρ b db) (sa : SeqAt.shaped da = true) (sb : SeqAt.shaped db = true) : Cm X W ρ .NotEq a b (!PyData.eqv da db) :=
  cm_of (op_neD c.room.units) ha hb fun x z H Q h1 h2 q => ⟨da, db, h1.dp _ _, h2.dp _ _, sa, sb, q⟩
def isNone : PyData → Bool
  | .none => true
  | _ => false
theorem dq_none {K : PySem.W.Frag} {F : Hp} {v : V} {d : PyData} (h : Dq K F v d) : decide (v = .non) = isNone d := by cases h <;> simp [isNone]
theorem cm_isN {d : PyData} {j pos'} (ha : Ev X W ρ a d) : Cm X W ρ .Is a (.Constant .none j pos') (isNone d) := fun pins s σ F H M Q I ok h => (pc_isN ha.pe).run pins s σ H Q I (rd ok fun x F1 H1 e1 dx => by
  rw [dq_none dx]
  exact h F1 H1 e1)
theorem cm_notN {d : PyData} {j pos'} (ha : Ev X W ρ a d) : Cm X W ρ .IsNot a (.Constant .none j pos') (!isNone d) := fun pins s σ F H M Q I ok h => (pc_notN ha.pe).run pins s σ H Q I (rd ok fun x F1 H1 e1 dx => by
  rw [dq_none dx]
  exact h F1 H1 e1)
/-! in, not in -/
theorem cm_inS (ha : Ev X W ρ a (.str x)) (hb : Ev X W ρ b (.str y)) : Cm X W ρ .In a b (!(Builtin.Str.occurrences y x 0 y.length 1).isEmpty) := cm_of op_in_str ha.rv hb.rv fun u v H Q dx dy h => ⟨x, y, dq_str dx, dq_str dy, h⟩
theorem cm_ninS (ha : Ev X W ρ a (.str x)) (hb : Ev X W ρ b (.str y)) : Cm X W ρ .NotIn a b (!(!(Builtin.Str.occurrences y x 0 y.length 1).isEmpty)) := cm_of op_notin_str ha.rv hb.rv fun u v H Q dx dy h => ⟨x, y, dq_str dx, dq_str dy, h⟩
/-- a text of one sign in a text -/
theorem cm_in1 {c : Nat} (ha : Ev X W ρ a (.str ⟨#[c]⟩)) (hb : Ev X W ρ b (.str y)) : Cm X W ρ .In a b (decide (c ∈ y.cps.toList)) := cm_of op_in_sign ha.rv hb.rv fun u v H Q dx dy h => ⟨c, y, dq_str dx, dq_str dy, h⟩
theorem cm_nin1 {c : Nat} (ha : Ev X W ρ a (.str ⟨#[c]⟩)) (hb : Ev X W ρ b (.str y)) : Cm X W ρ .NotIn a b (!decide (c ∈ y.cps.toList)) := cm_of op_notIn_sign ha.rv hb.rv fun u v H Q dx dy h => ⟨c, y, dq_str dx, dq_str dy, h⟩
/-! a chain of two -/
theorem ev_chain {c : Expr} {op op' : CmpOp} {i j l : Int} {f g : Int → Int → Bool} (ho : OpR X (compareOp op) (rI0 fun i j => .bl (f i j))) (ho' : OpR X (compareOp op') (rI0 fun i j => .bl (g i j))) (ha : Ev X W ρ a (.int i)) (hb : Ev X W ρ b (.int j)) (hc : Ev X W ρ c (.int l))
    (hm : lastMarks [op, op'] [b, c] = false := by with_unfolding_all rfl) : Ev X W ρ (.Compare a [op, op'] [b, c] pos) (.bool (f i j && g j l)) :=
  ev1_of (pe_chain ho ho' ha.pe hb.pe hc.pe hm) fun σ F H M Q ok h => rd ok fun x F1 H1 e1 dx => rd (ok.ext e1) fun y F2 H2 e2 dy => ⟨i, j, dq_int dx, dq_int dy, _, rfl, by
    cases q : f i j with
    | false => exact iteF (by rw [q] at h; exact h _ F2 H2 (e1.trans e2) (.bl _))
    | true => exact iteT (rd ((ok.ext e1).ext e2) fun z F3 H3 e3 dz => ⟨j, l, dq_int dy, dq_int dz, by rw [q] at h; exact h _ F3 H3 ((e1.trans e2).trans e3) (.bl _)⟩)⟩
theorem tst_chain {c : Expr} {op op' : CmpOp} {i j l : Int} {f g : Int → Int → Bool} (ho : OpR X (compareOp op) (rI0 fun i j => .bl (f i j))) (ho' : OpR X (compareOp op') (rI0 fun i j => .bl (g i j))) (ha : Ev X W ρ a (.int i)) (hb : Ev X W ρ b (.int j)) (hc : Ev X W ρ c (.int l))
    (hm : lastMarks [op, op'] [b, c] = false := by with_unfolding_all rfl) : Tst X W ρ (.Compare a [op, op'] [b, c] pos) (f i j && g j l) :=
  tst_of (pt_chain ho ho' ha.pe hb.pe hc.pe hm) fun σ F H M Q ok h => rd ok fun x F1 H1 e1 dx => rd (ok.ext e1) fun y F2 H2 e2 dy => ⟨i, j, dq_int dx, dq_int dy, _, rfl, by
    cases q : f i j with
    | false => exact iteF ⟨_, rfl, by rw [q] at h; exact h F2 H2 (e1.trans e2)⟩
    | true => exact iteT (rd ((ok.ext e1).ext e2) fun z F3 H3 e3 dz => ⟨j, l, dq_int dy, dq_int dz, _, rfl, by rw [q] at h; exact h F3 H3 ((e1.trans e2).trans e3)⟩)⟩

/-! ### tests, and, or, not -/
theorem tst_val {b : Bool} (h : Ev X W ρ e (.bool b)) (he : ∀ whole, isTrue e X.env whole = (do let v ← whole; standAt e.pos; holding [v] (truthy v)) := by intro _; rfl) : Tst X W ρ e b :=
  tst_of (pt_val h.pe he) fun σ F H M Q ok q => rd ok fun v F1 H1 e1 dv => ⟨b, dq_bl dv, q F1 H1 e1⟩
def Tws (X : Cx) (W : Wc) (ρ : Env) (e : Expr) (b : Bool) : Prop :=
  ∀ (whole : Sem Value) (pins : List (Addr × Obj)) (s : Shared) (σ : St) (F H : Hp) (M : Nat → Mini) (Q : Bool → Hp → Prop), Inv X pins σ H s → EOk X.K ρ F σ H M → (∀ F' H', Ext F H F' H' → Q b H') → wpAny (model X.prog X.w) X.A (isTrue e X.env whole) (TP X pins σ Q) X.xe s
theorem Tws.pw {b : Bool} (h : Tws X W ρ e b) : PW X e (tTst X ρ b) := ⟨fun wh pins s σ H Q I ⟨F, M, ok, q⟩ => h wh pins s σ F H M Q I ok q⟩
theorem Tws.tst {b : Bool} (h : Tws X W ρ e b) : Tst X W ρ e b := h _
variable {p q : Bool} {rest : List Expr}
theorem tw_and1 (h : Tst X W ρ a p) : Tws X W ρ (.BoolOp .And [a] pos) p := fun wh pins s σ F H M Q I ok z => (pw_and1 h.pt).run wh pins s σ H Q I ⟨F, M, ok, z⟩
theorem tw_or1 (h : Tst X W ρ a p) : Tws X W ρ (.BoolOp .Or [a] pos) p := fun wh pins s σ F H M Q I ok z => (pw_or1 h.pt).run wh pins s σ H Q I ⟨F, M, ok, z⟩
theorem pw_none {b : Expr} {rest : List Expr} {op : BoolOp} : PW X (.BoolOp op (b :: rest) pos) (fun _ _ _ => False) := ⟨fun _ _ _ _ _ _ _ z => z.elim⟩
theorem tw_and (h : Tst X W ρ a p) (h2 : p = true → Tws X W ρ (.BoolOp .And (b :: rest) pos) q) : Tws X W ρ (.BoolOp .And (a :: b :: rest) pos) (p && q) := fun wh pins s σ F H M Q I ok z => by
  cases p with
  | false => exact (pw_and h.pt pw_none).run wh pins s σ H Q I ⟨F, M, ok, fun F' H' x => iteF (z F' H' x)⟩
  | true => exact (pw_and h.pt (h2 rfl).pw).run wh pins s σ H Q I ⟨F, M, ok, fun F' H' x => iteT ⟨F', M, ok.ext x, fun F2 H2 x2 => z F2 H2 (x.trans x2)⟩⟩
theorem tw_or (h : Tst X W ρ a p) (h2 : p = false → Tws X W ρ (.BoolOp .Or (b :: rest) pos) q) : Tws X W ρ (.BoolOp .Or (a :: b :: rest) pos) (p || q) := fun wh pins s σ F H M Q I ok z => by
  cases p with
  | true => exact (pw_or h.pt pw_none).run wh pins s σ H Q I ⟨F, M, ok, fun F' H' x => iteT (z F' H' x)⟩
  | false => exact (pw_or h.pt (h2 rfl).pw).run wh pins s σ H Q I ⟨F, M, ok, fun F' H' x => iteF ⟨F', M, ok.ext x, fun F2 H2 x2 => z F2 H2 (x.trans x2)⟩⟩
theorem tst_not (h : Tst X W ρ a p) : Tst X W ρ (.UnaryOp .Not a pos) (!p) := tst_of (pt_not h.pt) fun σ F H M Q ok z => ⟨F, M, ok, z⟩
/-! .. as values -/
theorem ev_bo1 {op : BoolOp} {d : PyData} (h : Ev X W ρ a d) : Ev X W ρ (.BoolOp op [a] pos) d := ev1_of (pe_one h.pe) fun σ F H M Q ok z => rd ok z
theorem pe_none {b : Expr} {rest : List Expr} {op : BoolOp} : PE X (.BoolOp op (b :: rest) pos) (fun _ _ _ => False) := ⟨fun _ _ _ _ _ _ z => z.elim⟩
theorem ev_and (h : Ev X W ρ a (.bool p)) (h2 : p = true → Ev X W ρ (.BoolOp .And (b :: rest) pos) (.bool q)) : Ev X W ρ (.BoolOp .And (a :: b :: rest) pos) (.bool (p && q)) := by
  cases p with
  | false => exact ev1_of (pe_and h.pe pe_none) fun σ F H M Q ok z => rd ok fun v F1 H1 e1 dv => ⟨false, dq_bl dv, iteF (z _ F1 H1 e1 (.bl _))⟩
  | true => exact ev1_of (pe_and h.pe (h2 rfl).pe) fun σ F H M Q ok z => rd ok fun v F1 H1 e1 dv => ⟨true, dq_bl dv, iteT (rd (ok.ext e1) fun w F2 H2 e2 dw => z _ F2 H2 (e1.trans e2) dw)⟩
theorem ev_or (h : Ev X W ρ a (.bool p)) (h2 : p = false → Ev X W ρ (.BoolOp .Or (b :: rest) pos) (.bool q)) : Ev X W ρ (.BoolOp .Or (a :: b :: rest) pos) (.bool (p || q)) := by
  cases p with
  | true => exact ev1_of (pe_or h.pe pe_none) fun σ F H M Q ok z => rd ok fun v F1 H1 e1 dv => ⟨true, dq_bl dv, iteT (z _ F1 H1 e1 (.bl _))⟩
  | false => exact ev1_of (pe_or h.pe (h2 rfl).pe) fun σ F H M Q ok z => rd ok fun v F1 H1 e1 dv => ⟨false, dq_bl dv, iteF (rd (ok.ext e1) fun w F2 H2 e2 dw => z _ F2 H2 (e1.trans e2) dw)⟩
theorem ev_not (h : Ev X W ρ a (.bool p)) : Ev X W ρ (.UnaryOp .Not a pos) (.bool (!p)) := ev1_of (pe_not h.pe) fun σ F H M Q ok z => rd ok fun v F1 H1 e1 dv => ⟨p, dq_bl dv, z _ F1 H1 e1 (.bl _)⟩
/-- a if t else b -/
theorem ev_if {t : Expr} {d : PyData} (h : Tst X W ρ t p) (ha : p = true → Ev X W ρ a d) (hb : p = false → Ev X W ρ b d) : Ev X W ρ (.IfExp t a b pos) d := by
  cases p with
  | true => exact ev1_of (pe_ifExp (tb := fun _ _ _ => False) h.pt (ha rfl).pe ⟨fun _ _ _ _ _ _ z => z.elim⟩) fun σ F H M Q ok z => ⟨F, M, ok, fun F' H' x => iteT (rd (ok.ext x) fun v F1 H1 e1 dv => z v F1 H1 (x.trans e1) dv)⟩
  | false => exact ev1_of (pe_ifExp (ta := fun _ _ _ => False) h.pt ⟨fun _ _ _ _ _ _ z => z.elim⟩ (hb rfl).pe) fun σ F H M Q ok z => ⟨F, M, ok, fun F' H' x => iteF (rd (ok.ext x) fun v F1 H1 e1 dv => z v F1 H1 (x.trans e1) dv)⟩
end
end PV

/-! The pure-value layer: targets, loops, comprehensions, calls. -/
namespace PV
open PySem PySem.Spec PyProof.Rows L2

/-! ### targets -/
/-- the names with these numbers get these data -/
def setAll : Env → List Nat → List PyData → Env
  | ρ, i :: is, d :: ds => setAll (ρ.set i (some (fz d))) is ds
  | ρ, _, _ => ρ
def setAllV : St → List Nat → List V → St
  | σ, i :: is, v :: vs => setAllV (σ.set i (some v)) is vs
  | σ, _, _ => σ
/-- what a target takes of an item: itself, or the items of the tuple that it is -/
def tgItems : Bool → PyData → List PyData
  | false, d => [d]
  | true, .tuple ds => ds
  | true, _ => []
def tgFit (t : Bool) (is : List Nat) (d : PyData) : Prop := (t = true → ∃ ds, d = .tuple ds) ∧ (tgItems t d).length = is.length
/-- a target of the names with the numbers is -/
def gNames : List Nat → TGs
  | [] => gNil
  | i :: is => gCons (gName i) (gNames is)
def gOf (K : PySem.W.Frag) : Bool → List Nat → TG
  | true, is => gTup K is.length (gNames is)
  | false, i :: _ => gName i
  | false, [] => fun _ _ _ _ => False
def TgOk (X : Cx) (tg : Expr) (t : Bool) (is : List Nat) : Prop := PG X tg (gOf X.K t is)
def TgsOk (X : Cx) (ts : List Expr) (is : List Nat) : Prop := PGs X ts (gNames is)
theorem gNames_ok : ∀ (is : List Nat) (vs : List V) (σ : St) (H : Hp) (Q : St → Hp → Prop), vs.length = is.length → Q (setAllV σ is vs) H → gNames is vs σ H Q
  | [], [], σ, H, Q, _, q => ⟨rfl, q⟩
  | i :: is, v :: vs, σ, H, Q, hl, q => ⟨v, vs, rfl, gNames_ok is vs _ H Q (by simpa using hl) q⟩
theorem gOf_ok {K : PySem.W.Frag} {t : Bool} {is : List Nat} {v : V} {d : PyData} {σ : St} {F H : Hp} {Q : St → Hp → Prop} (s : Same F H) (h : Dq K F v d) (f : tgFit t is d) (z : ∀ vs, DqAll K F vs (tgItems t d) → Q (setAllV σ is vs) H) : gOf K t is v σ H Q := by
  obtain ⟨f1, f2⟩ := f
  cases t with
  | true =>
    obtain ⟨ds, rfl⟩ := f1 rfl
    obtain ⟨p, vs, rfl, h1, h2⟩ := dq_tup h
    have hl : vs.length = is.length := (DqAll_len h2).trans f2
    exact ⟨p, vs, rfl, same_seqT s h1, hl, gNames_ok is vs σ H Q hl (z vs h2)⟩
  | false =>
    match is, f2 with
    | [i], _ => exact z [v] (.cons h .nil)
section
variable {K : PySem.W.Frag} {B F0 F F' H H' : Hp} {M : Nat → Mini}
theorem PInv.setAll : ∀ {is : List Nat} {ds : List PyData} {vs : List V} {ρ : Env} {σ : St} {M : Nat → Mini}, PInv K B F0 ρ F σ H M → DqAll K F vs ds → ∃ M', PInv K B F0 (PV.setAll ρ is ds) F (setAllV σ is vs) H M'
  | [], _, _, _, _, M, x, _ => ⟨M, by
    cases ‹DqAll K F _ _› <;> exact x⟩
  | i :: is, [], _, _, _, M, x, .nil => ⟨M, x⟩
  | i :: is, d :: ds, v :: vs, _, _, M, x, .cons h t => by
    have y := PInv.setAll (is := is) (PInv.setF (i := i) x h) t
    exact y
theorem EOk.setF {i : Nat} {d : PyData} {v : V} {ρ : Env} {σ : St} (x : EOk K ρ F σ H M) (hd : Dq K F v d) : EOk K (ρ.set i (some (fz d))) F (σ.set i (some v)) H (upM M i []) :=
  (PInv.setF (K := K) (B := fun _ => none) (F0 := fun _ => none) ⟨x, (fun _ _ h => nomatch h), (fun _ _ h => nomatch h), (fun _ _ _ _ => rfl), (fun _ _ _ _ => rfl)⟩ hd).ok
theorem EOk.setAll {is : List Nat} {ds : List PyData} {vs : List V} {ρ : Env} {σ : St} (x : EOk K ρ F σ H M) (hd : DqAll K F vs ds) : ∃ M', EOk K (PV.setAll ρ is ds) F (setAllV σ is vs) H M' := by
  obtain ⟨M', y⟩ := PInv.setAll (K := K) (B := fun _ => none) (F0 := fun _ => none) (is := is) ⟨x, (fun _ _ h => nomatch h), (fun _ _ h => nomatch h), (fun _ _ _ _ => rfl), (fun _ _ _ _ => rfl)⟩ hd
  exact ⟨M', y.ok⟩
end
section
variable {X : Cx} {pos : Pos}
theorem tg_name (i : Nat) {x : Str} (nd : X.N.Nodup) (hi : X.N[i]? = some x := by rfl) (hx : Loc X.env.scope x := by first | exact Or.inl rfl | exact Or.inr rfl) (hf : X.fn x = true ∨ X.env.scope.names.lookup x = some .local := by first | exact .inl rfl | exact .inr rfl) : TgOk X (.Name x pos) false [i] :=
  pg_name nd hi hx hf
theorem tgs_nil : TgsOk X [] [] := pgs_nil
theorem tgs_cons (i : Nat) {x : Str} {ts : List Expr} {is : List Nat} (nd : X.N.Nodup) (ht : TgsOk X ts is) (hi : X.N[i]? = some x := by rfl) (hx : Loc X.env.scope x := by first | exact Or.inl rfl | exact Or.inr rfl) (hf : X.fn x = true ∨ X.env.scope.names.lookup x = some .local := by first | exact .inl rfl | exact .inr rfl)
    (hs : (assignEach (.Name x pos :: ts) X.env).map (·.2) = assign (.Name x pos) X.env :: (assignEach ts X.env).map (·.2) := by rfl) : TgsOk X (.Name x pos :: ts) (i :: is) := pgs_cons (pg_name nd hi hx hf) ht hs
theorem tg_tup {ts : List Expr} {is : List Nat} {kk : Nat} (hc : X.calm = true) (ht : TgsOk X ts is) (hn : (assignEach ts X.env).length = is.length := by rfl) (hst : (assignEach ts X.env).findIdx? (·.1) = none := by rfl) : TgOk X (.Tuple ts kk pos) true is := pg_tup hc ht hn hst
end

/-! ### what is walked -/
/-- the walk J gives the data ds, one by one, whatever is frozen besides -/
structure Walks (K : PySem.W.Frag) (J : It) (F : Hp) (ds : List PyData) : Prop where
  go : ∀ (i : Nat) (F1 H1 : Hp), Same F F1 → Same F1 H1 → i < ds.length → J.go i H1
  yld : ∀ (i : Nat) (F1 H1 : Hp) (x : V) (H2 : Hp), Same F F1 → Same F1 H1 → i < ds.length → J.yld i H1 x H2 → ∃ F2 d, Ext F1 H1 F2 H2 ∧ ds[i]? = some d ∧ Dq K F2 x d
  stop : ∀ (F1 H1 : Hp), Same F F1 → Same F1 H1 → J.stop ds.length H1
/-- iter walks ds -/
def Iv (X : Cx) (W : Wc) (ρ : Env) (tg iter : Expr) (ds : List PyData) : Prop :=
  ∃ wi : TI, PI X tg iter wi ∧ ∀ (σ : St) (F H : Hp) (M : Nat → Mini) (R : It → Hp → Prop), EOk X.K ρ F σ H M → (∀ J F' H', Ext F H F' H' → Walks X.K J F' ds → R J H') → wi σ H R
section
variable {X : Cx} {W : Wc} {ρ : Env} {tg a b : Expr} {pos p : Pos}
theorem walks_list {K : PySem.W.Frag} {F : Hp} {a : Addr} {vs : List V} {ds : List PyData} (h : SqL K F a vs) (q : DqAll K F vs ds) : Walks K (Itl K a) F ds where
  go := fun i F1 H1 s1 s2 hi => by
    obtain ⟨v, hv, _⟩ := DqAll_get q (List.getElem?_eq_getElem hi)
    exact ⟨vs, v, s2.seq (s1.seq h), hv⟩
  yld := fun i F1 H1 x H2 s1 s2 hi y => by
    obtain ⟨rfl, y⟩ := y
    obtain ⟨d, h1, h2⟩ := DqAll_getV q (y vs (s2.seq (s1.seq h)))
    exact ⟨F1, d, .refl s2, h1, dq_mono s1 _ _ h2⟩
  stop := fun F1 H1 s1 s2 => ⟨vs, s2.seq (s1.seq h), Nat.le_of_eq (DqAll_len q)⟩
/-- a list that stands frozen -/
theorem iv_list {ds : List PyData} (ha : Ev X W ρ a (.list ds)) : Iv X W ρ tg a ds := ⟨_, pi_list ha.pe, fun σ F H M R ok h => rd ok fun v F1 H1 e1 dv => by
  obtain ⟨p, vs, rfl, h1, h2⟩ := dq_lst dv
  exact ⟨p, rfl, ⟨vs, .inl (same_rd e1.sub h1)⟩, h _ F1 H1 e1 (walks_list (.inl h1) h2)⟩⟩
/-- a name that is known -/
theorem iv_kn (i : Nat) {x : Str} {ds : List PyData} (hd : ρ[i]? = some (some (kn ds))) (hN : X.N[i]? = some x := by rfl) (hv : Vis X.env.scope x := by first | exact Or.inl rfl | exact Or.inr (Or.inl rfl) | exact Or.inr (Or.inr rfl))
    (h1 : (x == ("__debug__" : Str)) = false := by decide) (h2 : (x == ("__classdict__" : Str)) = false := by decide) : Iv X W ρ tg (.Name x pos) ds :=
  ⟨_, pi_list (pe_var hN hv h1 h2), fun σ F H M R ok h => by
    obtain ⟨v, e, _, a, vs, rfl, q1, q2⟩ := ok.at_ i _ hd
    exact ⟨_, e, a, rfl, ⟨vs, ok.sub.seq q1⟩, h _ F H (.refl ok.sub) (walks_list q1 q2)⟩⟩
theorem iv_tup {ds : List PyData} (ha : Ev X W ρ a (.tuple ds)) : Iv X W ρ tg a ds := ⟨_, pi_tup ha.pe, fun σ F H M R ok h => rd ok fun v F1 H1 e1 dv => by
  obtain ⟨p, vs, rfl, h1, h2⟩ := dq_tup dv
  refine ⟨p, rfl, ⟨vs, same_seqT e1.sub h1⟩, h _ F1 H1 e1 ⟨fun i F2 H2 s1 s2 hi => ?_, fun i F2 H2 x H3 s1 s2 hi y => ?_, fun F2 H2 s1 s2 => ?_⟩⟩
  · obtain ⟨v, hv, _⟩ := DqAll_get h2 (List.getElem?_eq_getElem hi)
    exact ⟨vs, v, same_seqT (s1.trans s2) h1, hv⟩
  · obtain ⟨rfl, y⟩ := y
    obtain ⟨d, q1, q2⟩ := DqAll_getV h2 (y vs (same_seqT (s1.trans s2) h1))
    exact ⟨F2, d, .refl s2, q1, dq_mono s1 _ _ q2⟩
  · exact ⟨vs, same_seqT (s1.trans s2) h1, Nat.le_of_eq (DqAll_len h2)⟩⟩
/-- the numbers from lo on, n of them -/
def nums (lo : Int) : Nat → List PyData
  | 0 => []
  | n + 1 => .int lo :: nums (lo + 1) n
theorem nums_length : ∀ (n : Nat) (lo : Int), (nums lo n).length = n
  | 0, _ => rfl
  | n + 1, lo => congrArg (· + 1) (nums_length n (lo + 1))
theorem nums_get : ∀ (n : Nat) (lo : Int) (i : Nat), i < n → (nums lo n)[i]? = some (.int (lo + i))
  | 0, _, _, h => by omega
  | n + 1, lo, 0, _ => by simp [nums]
  | n + 1, lo, i + 1, h => by
    show (nums (lo + 1) n)[i]? = _
    rw [nums_get n (lo + 1) i (by omega)]
    congr 2
    push_cast
    omega
theorem nums_eq : ∀ (n : Nat) (lo : Int), nums lo n = (List.range n).map fun (i : Nat) => PyData.int (lo + i) := by
  intro n lo
  apply List.ext_getElem?
  intro i
  by_cases h : i < n
  · rw [nums_get n lo i h]; simp [h]
  · rw [List.getElem?_eq_none (by rw [nums_length]; omega), List.getElem?_eq_none (by simp; omega)]
theorem walks_range {K : PySem.W.Frag} {F : Hp} {lo : Int} {n : Nat} : Walks K (Itr lo n) F (nums lo n) where
  go := fun i F1 H1 s1 s2 hi => by rw [nums_length] at hi; exact hi
  yld := fun i F1 H1 x H2 s1 s2 hi y => by
    rw [nums_length] at hi
    obtain ⟨rfl, rfl⟩ := y
    exact ⟨F1, _, .refl s2, nums_get n lo i hi, .int _⟩
  stop := fun F1 H1 s1 s2 => Nat.le_of_eq (nums_length n lo).symm
theorem iv_range1 {j : Int} (B : Blt X.mg) (ha : Ev X W ρ a (.int j)) (h1 : -(2 ^ 62) ≤ j) (h2 : j < 2 ^ 62) (hg : Gl X "range" := by rfl) (hs : starEach [a] X.env = [(false, eval a X.env)] := by rfl) : Iv X W ρ tg (.Call (.Name "range" p) [a] [] pos) (nums 0 j.toNat) :=
  ⟨_, pi_range1 hg B.range (pa_cons ha.pe pa_nil hs) hs, fun σ F H M R ok h => rd ok fun v F1 H1 e1 dv => ⟨j, by rw [dq_int dv], h1, h2, h _ F1 H1 e1 walks_range⟩⟩
theorem iv_range2 {i j : Int} (B : Blt X.mg) (ha : Ev X W ρ a (.int i)) (hb : Ev X W ρ b (.int j)) (h1 : -(2 ^ 62) ≤ i ∧ i < 2 ^ 62 ∧ -(2 ^ 62) ≤ j ∧ j < 2 ^ 62) (hg : Gl X "range" := by rfl)
    (hs : starEach [a, b] X.env = [(false, eval a X.env), (false, eval b X.env)] := by rfl) (hs2 : starEach [b] X.env = [(false, eval b X.env)] := by rfl) (hs3 : starEach [a, b] X.env = (false, eval a X.env) :: starEach [b] X.env := by rfl) : Iv X W ρ tg (.Call (.Name "range" p) [a, b] [] pos) (nums i (j - i).toNat) :=
  ⟨_, pi_range2 hg B.range (pa_cons ha.pe (pa_cons hb.pe pa_nil hs2) hs3) hs hs2, fun σ F H M R ok h => rd ok fun v F1 H1 e1 dv => rd (ok.ext e1) fun w F2 H2 e2 dw => ⟨i, j, by rw [dq_int dv, dq_int dw], h1, h _ F2 H2 (e1.trans e2) walks_range⟩⟩
/-- (0, x), (1, y), .. -/
def enums : Int → List PyData → List PyData
  | _, [] => []
  | i, d :: ds => .tuple [.int i, d] :: enums (i + 1) ds
theorem enums_length : ∀ (ds : List PyData) (i : Int), (enums i ds).length = ds.length
  | [], _ => rfl
  | d :: ds, i => congrArg (· + 1) (enums_length ds (i + 1))
theorem enums_get : ∀ (ds : List PyData) (i : Int) (j : Nat) (d : PyData), ds[j]? = some d → (enums i ds)[j]? = some (.tuple [.int (i + j), d])
  | [], _, _, _, h => by simp at h
  | d :: ds, i, 0, e, h => by simp at h; subst h; simp [enums]
  | d :: ds, i, j + 1, e, h => by
    show (enums (i + 1) ds)[j]? = _
    rw [enums_get ds (i + 1) j e (by simpa using h)]
    congr 4
    push_cast
    omega
theorem iv_enum {elts : List Expr} {kk : Nat} {tpos : Pos} {ds : List PyData} (B : Blt X.mg) (ha : Ev X W ρ a (.list ds)) (hg : Gl X "enumerate" := by rfl) (hs : starEach [a] X.env = [(false, eval a X.env)] := by rfl) : Iv X W ρ (.Tuple elts kk tpos) (.Call (.Name "enumerate" p) [a] [] pos) (enums 0 ds) :=
  ⟨_, pi_enum hg B.enumerate (pa_cons ha.pe pa_nil hs) hs, fun σ F H M R ok h => rd ok fun v F1 H1 e1 dv => by
    obtain ⟨p, vs, rfl, h1, h2⟩ := dq_lst dv
    refine ⟨p, vs, rfl, .inl (same_rd e1.sub h1), h _ F1 H1 e1 ⟨fun i F2 H2 s1 s2 hi => ?_, fun i F2 H2 x H3 s1 s2 hi y => ?_, fun F2 H2 s1 s2 => ?_⟩⟩
    · rw [enums_length] at hi
      obtain ⟨v, hv, _⟩ := DqAll_get h2 (List.getElem?_eq_getElem hi)
      exact ⟨vs, v, .inl (same_rd (s1.trans s2) h1), hv⟩
    · obtain ⟨T, y1, rfl, hT, rfl, hy⟩ := y
      obtain ⟨d, q1, q2⟩ := DqAll_getV h2 (hy vs (.inl (same_rd (s1.trans s2) h1)))
      have x := Ext.laid (o := .tup [.int (i : Nat), y1]) s2 hT
      refine ⟨_, _, x, enums_get ds 0 i d q1, .tup upd_same (.cons ?_ (.cons (dq_mono (s1.trans x.f) _ _ q2) .nil))⟩
      rw [Int.zero_add]
      exact .int _
    · exact ⟨vs, .inl (same_rd (s1.trans s2) h1), by rw [enums_length]; exact Nat.le_of_eq (DqAll_len h2)⟩⟩
/-- (x, y) of two lists -/
def zips : List PyData → List PyData → List PyData
  | d :: ds, e :: es => .tuple [d, e] :: zips ds es
  | _, _ => []
theorem zips_length : ∀ (ds es : List PyData), (zips ds es).length = min ds.length es.length
  | [], es => by simp [zips]
  | d :: ds, [] => by simp [zips]
  | d :: ds, e :: es => by simp [zips, zips_length ds es, Nat.succ_min_succ]
theorem zips_get : ∀ (ds es : List PyData) (j : Nat) (d e : PyData), ds[j]? = some d → es[j]? = some e → (zips ds es)[j]? = some (.tuple [d, e])
  | [], _, _, _, _, h, _ => by simp at h
  | d :: ds, [], _, _, _, _, h => by simp at h
  | d :: ds, e :: es, 0, x, y, h, h' => by simp at h h'; subst h h'; simp [zips]
  | d :: ds, e :: es, j + 1, x, y, h, h' => by
    show (zips ds es)[j]? = _
    exact zips_get ds es j x y (by simpa using h) (by simpa using h')
theorem iv_zip {elts : List Expr} {kk : Nat} {tpos : Pos} {ds es : List PyData} (B : Blt X.mg) (ha : Ev X W ρ a (.list ds)) (hb : Ev X W ρ b (.list es)) (hg : Gl X "zip" := by rfl) (hs : starEach [a, b] X.env = (false, eval a X.env) :: starEach [b] X.env := by rfl)
    (hs2 : starEach [b] X.env = (false, eval b X.env) :: starEach [] X.env := by rfl) (hpl : (backTo pos (starEach [b] X.env)).any (·.1) = false := by rfl) : Iv X W ρ (.Tuple elts kk tpos) (.Call (.Name "zip" p) [a, b] [] pos) (zips ds es) :=
  ⟨_, pi_zip hg B.zip (pa_cons ha.pe (pa_cons hb.pe pa_nil hs2) hs) hs hpl, fun σ F H M R ok h => rd ok fun v F1 H1 e1 dv => rd (ok.ext e1) fun w F2 H2 e2 dw => by
    obtain ⟨p, vs, rfl, h1, h2⟩ := dq_lst dv
    obtain ⟨q, ws, rfl, h3, h4⟩ := dq_lst dw
    have h1' := same_rd e2.f h1
    have h2' := dqAll_mono e2.f _ _ h2
    refine ⟨p, q, vs, ws, rfl, .inl (same_rd e2.sub h1'), .inl (same_rd e2.sub h3), h _ F2 H2 (e1.trans e2) ⟨fun i F3 H3 s1 s2 hi => ?_, fun i F3 H3 x H4 s1 s2 hi y => ?_, fun F3 H3 s1 s2 => ?_⟩⟩
    · rw [zips_length] at hi
      obtain ⟨v, hv, _⟩ := DqAll_get h2' (List.getElem?_eq_getElem (show i < ds.length by omega))
      obtain ⟨w, hw, _⟩ := DqAll_get h4 (List.getElem?_eq_getElem (show i < es.length by omega))
      exact ⟨vs, ws, v, w, .inl (same_rd (s1.trans s2) h1'), .inl (same_rd (s1.trans s2) h3), hv, hw⟩
    · obtain ⟨T, y1, y2, rfl, hT, rfl, hy1, hy2⟩ := y
      obtain ⟨d, q1, q2⟩ := DqAll_getV h2' (hy1 vs (.inl (same_rd (s1.trans s2) h1')))
      obtain ⟨e, q3, q4⟩ := DqAll_getV h4 (hy2 ws (.inl (same_rd (s1.trans s2) h3)))
      have x := Ext.laid (o := .tup [y1, y2]) s2 hT
      exact ⟨_, _, x, zips_get ds es i d e q1 q3, .tup upd_same (.cons (dq_mono (s1.trans x.f) _ _ q2) (.cons (dq_mono (s1.trans x.f) _ _ q4) .nil))⟩
    · refine ⟨vs, ws, .inl (same_rd (s1.trans s2) h1'), .inl (same_rd (s1.trans s2) h3), ?_⟩
      rw [zips_length, DqAll_len h2', DqAll_len h4]
      omega⟩
/-- the signs of a text -/
theorem iv_str {z : Str} (ha : Ev X W ρ a (.str z)) : Iv X W ρ tg a (z.cps.toList.map fun c => .str ⟨#[c]⟩) := ⟨_, pi_str ha.pe, fun σ F H M R ok h => rd ok fun v F1 H1 e1 dv =>
  ⟨z, dq_str dv, h _ F1 H1 e1 ⟨fun i F2 H2 s1 s2 hi => (by simpa using hi : i < z.cps.size), fun i F2 H2 x H3 s1 s2 hi y => by
    obtain ⟨rfl, c, hc, rfl⟩ := y
    refine ⟨F2, .str ⟨#[c]⟩, .refl s2, ?_, .str _⟩
    rw [List.getElem?_map, Array.getElem?_toList, hc]
    rfl, fun F2 H2 s1 s2 => by
    show z.cps.size ≤ _
    simp⟩⟩⟩

theorem PInv.based {K : PySem.W.Frag} {B F0 F H : Hp} {ρ : Env} {σ : St} {M : Nat → Mini} (x : PInv K B F0 ρ F σ H M) : PInv K B F ρ F σ H M :=
  ⟨x.ok, x.base, .refl _, (fun a o h1 h2 => by rw [h1] at h2; cases h2), x.mb⟩
theorem PInv.rebase {K : PySem.W.Frag} {B F0 F H F' H' : Hp} {ρ ρ' : Env} {σ σ' : St} {M M' : Nat → Mini} (x : PInv K B F0 ρ F σ H M) (y : PInv K B F ρ' F' σ' H' M') : PInv K B F0 ρ' F' σ' H' M' :=
  .mk (mb := y.mb) y.ok y.base (x.f0.trans y.f0) fun a o h1 h2 => by
    cases e : F a with
    | none => exact y.nb a o h1 e
    | some u => exact x.nb a u e h2

/-! ### for -/
/-- what a turn is to reach -/
def turnS (P : Env → Prop) (X : Cx) (W : Wc) (rest : List Stmt) (Φ : Out → Prop) : Out → Prop
  | .next ρ => ∃ ρ', Wk ρ ρ' ∧ P ρ'
  | .cont ρ => ∃ ρ', Wk ρ ρ' ∧ P ρ'
  | .brk ρ => Sxs X W rest ρ Φ
  | o => Φ o
theorem sxs_for {C : Ec → Addr} {k : Nat} {t : Bool} {is : List Nat} {ds : List PyData} {body rest : List Stmt} {Φ : Out → Prop} (c : Ctx X C W k) (P : Nat → Env → Prop) (hi : Iv X W ρ tg a ds) (hg : TgOk X tg t is) (h0 : P 0 ρ)
    (step : ∀ i d ρ, ds[i]? = some d → P i ρ → tgFit t is d ∧ Sxs X W body (setAll ρ is (tgItems t d)) (turnS (P (i + 1)) X W rest Φ))
    (done : ∀ ρ, P ds.length ρ → Sxs X W rest ρ Φ) (hs : ∀ x, foldedSetIterable a X.env x = pure x := by intro _; rfl) : Sxs X W (.For tg a body [] pos :: rest) ρ Φ := by
  obtain ⟨wi, hwi, qi⟩ := hi
  refine sxs_of (ps_for c.po c.calm hwi hg (pss_Sxs X W body) hs) fun σ F H M B F0 D ok q => ?_
  refine qi σ F H M _ ok.ok fun J F1 H1 x1 wk => ?_
  refine ⟨fun i m σ H => m = ds.length - i ∧ i ≤ ds.length ∧ ∃ ρ F M, P i ρ ∧ PInv X.K B F0 ρ F σ H M ∧ Same F1 F, ⟨_, rfl, Nat.zero_le _, ρ, F1, M, h0, ok.ext x1, .refl _⟩, ?_⟩
  rintro i m σ2 H2 ⟨rfl, hle, ρ2, F2, M2, p2, ok2, s2⟩
  by_cases hlt : i < ds.length
  · refine .inr ⟨wk.go i F2 H2 s2 ok2.ok.sub hlt, fun σ' H' => i + 1 ≤ ds.length ∧ ∃ ρ F M, P (i + 1) ρ ∧ PInv X.K B F0 ρ F σ' H' M ∧ Same F1 F, fun σ' H' ⟨a1, a2⟩ => ⟨ds.length - (i + 1), by omega, rfl, a1, a2⟩, fun x H3 y => ?_⟩
    obtain ⟨F3, d, x3, hd, dv⟩ := wk.yld i F2 H2 x H3 s2 ok2.ok.sub hlt y
    obtain ⟨fit, body⟩ := step i d ρ2 hd p2
    refine gOf_ok x3.sub dv fit fun vs dvs => ?_
    obtain ⟨M4, ok4⟩ := PInv.setAll (is := is) (ok2.ext x3) dvs
    refine ⟨_, _, F3, M4, B, F3, body, ok4.based, fun o ho => ?_⟩
    have again : ∀ ρ', (∃ ρ'', Wk ρ' ρ'' ∧ P (i + 1) ρ'') → ∀ F σ H M, PInv X.K B F3 ρ' F σ H M → i + 1 ≤ ds.length ∧ ∃ ρ F M, P (i + 1) ρ ∧ PInv X.K B F0 ρ F σ H M ∧ Same F1 F := fun ρ' ⟨ρ'', w, p⟩ F σ H M ok5 =>
      ⟨hlt, ρ'', F, M, p, (ok4.rebase ok5).weak w, (s2.trans x3.f).trans ok5.f0⟩
    cases o with
    | next ρ' => exact again ρ' ho
    | cont ρ' => exact again ρ' ho
    | brk ρ' => exact fun F σ H M ok5 => ⟨ρ', Φ, F, M, B, F0, ho, ok4.rebase ok5, q⟩
    | ret S ρ' => exact fun v F σ H M ok5 => q _ ho v F σ H M (ok4.rebase ok5)
    | raise c ρ' => exact fun F σ H M ok5 => q _ ho F σ H M (ok4.rebase ok5)
  · have e : i = ds.length := by omega
    subst e
    exact .inl ⟨wk.stop F2 H2 s2 ok2.ok.sub, ⟨ρ2, Φ, F2, M2, B, F0, done ρ2 p2, ok2, q⟩⟩
end
end PV

/-! The pure-value layer: while, lists that change, comprehensions, defs and their calls. -/
namespace PV
open PySem PySem.Spec PyProof.Rows L2
section
variable {X : Cx} {W : Wc} {ρ : Env} {e a b : Expr} {es : List Expr} {pos p : Pos} {C : Ec → Addr} {k : Nat} {rest : List Stmt} {Φ : Out → Prop}

/-! ### while -/
def tTsts (X : Cx) (W : Wc) (e : Expr) : TT := fun σ H Q => ∃ ρ b F M, Tst X W ρ e b ∧ EOk X.K ρ F σ H M ∧ (∀ F' H', Ext F H F' H' → Q b H')
theorem pt_tsts : PT X e (tTsts X W e) := ⟨fun pins s σ H Q I ⟨ρ, b, F, M, h, ok, q⟩ => h pins s σ F H M Q I ok q⟩
theorem sxs_while {body : List Stmt} (c : Ctx X C W k) (P : Nat → Env → Prop) {m0 : Nat} (h0 : P m0 ρ)
    (step : ∀ m ρ, P m ρ → ∃ b, Tst X W ρ e b ∧ (b = true → Sxs X W body ρ (turnS (fun ρ' => ∃ m', m' < m ∧ P m' ρ') X W rest Φ)) ∧ (b = false → Sxs X W rest ρ Φ)) : Sxs X W (.While e body [] pos :: rest) ρ Φ := by
  refine sxs_of (ps_while c.po (pt_tsts (W := W)) (pss_Sxs X W body)) fun σ F H M B F0 D ok q => ?_
  refine ⟨fun m σ H => ∃ ρ F M, P m ρ ∧ PInv X.K B F0 ρ F σ H M, ⟨m0, ρ, F, M, h0, ok⟩, ?_⟩
  rintro m σ2 H2 ⟨ρ2, F2, M2, p2, ok2⟩
  obtain ⟨b, hb, h1, h2⟩ := step m ρ2 p2
  refine ⟨ρ2, b, F2, M2, hb, ok2.ok, fun F' H' x => ?_⟩
  have ok3 := ok2.ext x
  cases b with
  | false => exact iteF ⟨ρ2, Φ, F', M2, B, F0, h2 rfl, ok3, q⟩
  | true =>
    refine iteT ⟨fun σ' H' => ∃ m', m' < m ∧ ∃ ρ F M, P m' ρ ∧ PInv X.K B F0 ρ F σ' H' M, fun σ' H' h => h, ρ2, _, F', M2, B, F0, h1 rfl, ok3, fun o ho => ?_⟩
    have again : ∀ ρ', (∃ ρ'', Wk ρ' ρ'' ∧ ∃ m', m' < m ∧ P m' ρ'') → ∀ F σ H M, PInv X.K B F0 ρ' F σ H M → ∃ m', m' < m ∧ ∃ ρ F M, P m' ρ ∧ PInv X.K B F0 ρ F σ H M := fun ρ' ⟨ρ'', w, m', hm, p⟩ F σ H M ok5 => ⟨m', hm, ρ'', F, M, p, ok5.weak w⟩
    cases o with
    | next ρ' => exact again ρ' ho
    | cont ρ' => exact again ρ' ho
    | brk ρ' => exact fun F σ H M ok5 => ⟨ρ', Φ, F, M, B, F0, ho, ok5, q⟩
    | ret S ρ' => exact q _ ho
    | raise c ρ' => exact q _ ho

/-! ### lists that change -/
theorem ty_lst {K : PySem.W.Frag} {H : Hp} {l : Addr} {xs : List V} (h : H l = some (.lst xs)) : tyV K "list" (.ref l) H := .inl ⟨rfl, _, SqL.of h⟩
/-- x.append(e), x a name that owns its list -/
theorem sxs_append (i : Nat) {x : Str} {px pa : Pos} {pq : Option Addr} {ds : List PyData} {d : PyData} (hd : ρ[i]? = some (some (ow pq ds))) (he : Ev X W ρ e d) (c : ds.length < sizeLine) (k : Sxs X W rest (ρ.set i (some (ow pq (ds ++ [d])))) Φ)
    (hp : ∀ t, PE X e t → PE X (.Call (.Attribute (.Name x px) "append" pa) [e] [] p) (tBM X.K "list" rAppend (tVar i) (tCons t tNil)) := by exact fun t h => pe_bm PySem.F.plainAttrs_list PySem.F.slot_list_append PySem.F.type_list_append mt_append (pv _) (pa_cons h pa_nil))
    (hs : swapsWith (.Call (.Attribute (.Name x px) "append" pa) [e] [] p) none pos.line X.env = pure false := by rfl) : Sxs X W (.Expr (.Call (.Attribute (.Name x px) "append" pa) [e] [] p) pos :: rest) ρ Φ :=
  sxs_of (ps_expr (hp _ he.pe) hs) fun σ F H M B F0 D ok q => by
    obtain ⟨v, hσ, a, vs, rfl, hM, hpq, dvs⟩ := ok.ok.at_ i _ hd
    have hH : H a = some (.lst vs) := (ok.ok.own i a _ (by rw [hM]; exact List.mem_cons_self)).1
    refine ⟨.ref a, hσ, ty_lst hH, rd ok.ok fun w F1 H1 e1 dw => ?_⟩
    have ok1 := ok.ext e1
    exact ⟨a, vs, w, rfl, rfl, e1.h a _ hH, by rw [DqAll_len dvs]; exact c, _, Φ, F1, _, B, F0, k, ok1.mut hd hσ hpq hM (DqAll_app (dqAll_mono e1.f _ _ dvs) (.cons dw .nil)), q⟩
/-- x[j] = e -/
theorem sxs_setItem (i : Nat) {x : Str} {px pb : Pos} {pq : Option Addr} {ds : List PyData} {d : PyData} {j : Int} {n : Nat} (hd : ρ[i]? = some (some (ow pq ds))) (he : Ev X W ρ e d) (hb : Ev X W ρ b (.int j)) (hj : ixN ds.length j = some n) (k : Sxs X W rest (ρ.set i (some (ow pq (ds.set n d)))) Φ)
    (hp : ∀ t u, PE X e t → PE X b u → PS X (.Assign [.Subscript (.Name x px) b pb] e pos) (tAsg t (gSub (tVar i) u rSetL)) := by exact fun t u h h' => ps_asg h (pg_sub (pv _) h' set_list)) :
    Sxs X W (.Assign [.Subscript (.Name x px) b pb] e pos :: rest) ρ Φ :=
  sxs_of (hp _ _ he.pe hb.pe) fun σ F H M B F0 D ok q => by
    obtain ⟨v, hσ, a, vs, rfl, hM, hpq, dvs⟩ := ok.ok.at_ i _ hd
    have hH : H a = some (.lst vs) := (ok.ok.own i a _ (by rw [hM]; exact List.mem_cons_self)).1
    refine rd ok.ok fun w F1 H1 e1 dw => ⟨.ref a, hσ, rd (ok.ok.ext e1) fun y F2 H2 e2 dy => ?_⟩
    have ok2 := ok.ext (e1.trans e2)
    exact ⟨a, vs, j, n, rfl, dq_int dy, (e1.trans e2).h a _ hH, by rw [DqAll_len dvs]; exact hj, _, Φ, F2, _, B, F0, k, ok2.mut hd hσ hpq hM (DqAll_set n (dqAll_mono (e1.trans e2).f _ _ dvs) (dq_mono e2.f _ _ dw)), q⟩
/-- x.clear() -/
theorem sxs_clear (i : Nat) {x : Str} {px pa : Pos} {pq : Option Addr} {ds : List PyData} (hd : ρ[i]? = some (some (ow pq ds))) (k : Sxs X W rest (ρ.set i (some (ow pq []))) Φ)
    (hp : PE X (.Call (.Attribute (.Name x px) "clear" pa) [] [] p) (tBM0 X.K "list" rClear (tVar i)) := by exact pe_bm0 PySem.F.plainAttrs_list PySem.F.slot_list_clear PySem.F.type_list_clear mt_clear (pv _))
    (hs : swapsWith (.Call (.Attribute (.Name x px) "clear" pa) [] [] p) none pos.line X.env = pure false := by rfl) : Sxs X W (.Expr (.Call (.Attribute (.Name x px) "clear" pa) [] [] p) pos :: rest) ρ Φ :=
  sxs_of (ps_expr hp hs) fun σ F H M B F0 D ok q => by
    obtain ⟨v, hσ, a, vs, rfl, hM, hpq, dvs⟩ := ok.ok.at_ i _ hd
    have hH : H a = some (.lst vs) := (ok.ok.own i a _ (by rw [hM]; exact List.mem_cons_self)).1
    exact ⟨.ref a, hσ, ty_lst hH, a, vs, rfl, rfl, hH, _, Φ, F, _, B, F0, k, ok.mut hd hσ hpq hM .nil, q⟩

/-! ### built-ins over a list -/
theorem dqAll_ints {K : PySem.W.Frag} {F : Hp} : ∀ {ns : List Int} {vs : List V}, DqAll K F vs (ns.map PyData.int) → vs = ns.map V.int
  | [], _, h => by cases h; rfl
  | n :: ns, _, h => by
    cases h with
    | cons h t => rw [dq_int h, dqAll_ints t]; rfl
theorem dqAll_bls {K : PySem.W.Frag} {F : Hp} : ∀ {ns : List Bool} {vs : List V}, DqAll K F vs (ns.map PyData.bool) → vs = ns.map V.bl
  | [], _, h => by cases h; rfl
  | n :: ns, _, h => by
    cases h with
    | cons h t => rw [dq_bl h, dqAll_bls t]; rfl
theorem dqAll_strs {K : PySem.W.Frag} {F : Hp} : ∀ {ns : List Str} {vs : List V}, DqAll K F vs (ns.map PyData.str) → vs = ns.map V.str
  | [], _, h => by cases h; rfl
  | n :: ns, _, h => by
    cases h with
    | cons h t => rw [dq_str h, dqAll_strs t]; rfl
theorem strs_dqAll {K : PySem.W.Frag} {F : Hp} : ∀ (ns : List Str), DqAll K F (ns.map V.str) (ns.map PyData.str)
  | [] => .nil
  | n :: ns => .cons (.str n) (strs_dqAll ns)
theorem ints_dqAll {K : PySem.W.Frag} {F : Hp} : ∀ (ns : List Int), DqAll K F (ns.map V.int) (ns.map PyData.int)
  | [] => .nil
  | n :: ns => .cons (.int n) (ints_dqAll ns)
section
variable (c : Ctx X C W k) (B : Blt X.mg)
include c B
theorem ev_sum {ns : List Int} (ha : Bw X W ρ a (ns.map PyData.int)) (hg : Gl X "sum" := by rfl) (he : starEach (a :: []) X.env = (false, eval a X.env) :: starEach [] X.env := by rfl) : Ev X W ρ (.Call (.Name "sum" p) [a] [] pos) (.int ns.sum) :=
  ev1_of (pe_callB (cr_sum c.calm) hg B.sum (by decide +kernel) (pa_cons ha.pe pa_nil he) (he := he)) fun σ F H M Q ok h => ⟨F, M, ok, fun x F1 H1 e1 ⟨p, vs, ex, h1, h2⟩ => by
    subst ex
    rw [dqAll_ints h2] at h1
    exact ⟨p, ns, rfl, h1, h _ F1 H1 e1 (.int _)⟩⟩
theorem ev_any {ns : List Bool} (ha : Bw X W ρ a (ns.map PyData.bool)) (hg : Gl X "any" := by rfl) (he : starEach (a :: []) X.env = (false, eval a X.env) :: starEach [] X.env := by rfl) : Ev X W ρ (.Call (.Name "any" p) [a] [] pos) (.bool (ns.any id)) :=
  ev1_of (pe_callB (cr_any c.calm) hg B.any (by decide +kernel) (pa_cons ha.pe pa_nil he) (he := he)) fun σ F H M Q ok h => ⟨F, M, ok, fun x F1 H1 e1 ⟨p, vs, ex, h1, h2⟩ => by
    subst ex
    rw [dqAll_bls h2] at h1
    exact ⟨p, ns, rfl, h1, h _ F1 H1 e1 (.bl _)⟩⟩
theorem ev_all {ns : List Bool} (ha : Bw X W ρ a (ns.map PyData.bool)) (hg : Gl X "all" := by rfl) (he : starEach (a :: []) X.env = (false, eval a X.env) :: starEach [] X.env := by rfl) : Ev X W ρ (.Call (.Name "all" p) [a] [] pos) (.bool (ns.all id)) :=
  ev1_of (pe_callB (cr_all c.calm) hg B.all (by decide +kernel) (pa_cons ha.pe pa_nil he) (he := he)) fun σ F H M Q ok h => ⟨F, M, ok, fun x F1 H1 e1 ⟨p, vs, ex, h1, h2⟩ => by
    subst ex
    rw [dqAll_bls h2] at h1
    exact ⟨p, ns, rfl, h1, h _ F1 H1 e1 (.bl _)⟩⟩
/-- the greatest of a list -/
theorem ev_maxL {ns : List Int} {m : Int} (ha : Bw X W ρ a (ns.map PyData.int)) (h0 : 0 < ns.length) (hm : ∀ m', m' ∈ ns → (∀ y, y ∈ ns → y ≤ m') → m' = m) (hg : Gl X "max" := by rfl) (he : starEach (a :: []) X.env = (false, eval a X.env) :: starEach [] X.env := by rfl) : Ev X W ρ (.Call (.Name "max" p) [a] [] pos) (.int m) :=
  ev1_of (pe_callB (cr_max c.calm) hg B.max (by decide +kernel) (pa_cons ha.pe pa_nil he) (he := he)) fun σ F H M Q ok h => ⟨F, M, ok, fun x F1 H1 e1 ⟨p, vs, ex, h1, h2⟩ => by
    subst ex
    rw [dqAll_ints h2] at h1
    exact ⟨p, ns, rfl, h1, h0, fun m' i1 i2 => by rw [hm m' i1 i2]; exact h _ F1 H1 e1 (.int _)⟩⟩
end

/-! ### isinstance of a built-in class -/
/-- the name of a datum's class -/
def clsOf : PyData → String
  | .none => "NoneType"
  | .bool _ => "bool"
  | .int _ => "int"
  | .str _ => "str"
  | .list _ => "list"
  | .tuple _ => "tuple"
  | .dict _ => "dict"
theorem tyx_of {K : PySem.W.Frag} {H : Hp} {v : V} {d : PyData} (h : Dq K H v d) (hn : d ≠ .none) : TyX K H v (.type (clsOf d)) := by
  cases h with
  | non => exact absurd rfl hn
  | bl b => exact .base (.bl b)
  | int i => exact .base (.int i)
  | str x => exact .base (.str x)
  | lst h1 _ =>
    rcases h1 with h1 | ⟨o, h1⟩
    · exact .base (.lst h1)
    · exact .base (.frz h1)
  | tup h1 _ => exact .base (.tup h1)
theorem tyx_non {K : PySem.W.Frag} {H : Hp} : TyX K H .non (.type "NoneType") := .base .non
theorem ev_isi {T : Str} {T0 : String} {p2 : Pos} {d : PyData} {r : Bool} (B : Blt X.mg) (ha : Ev X W ρ a d) (hT : bootBuiltins T = some (.type T0)) (hmT : X.mg T = none) (hk : kitB (clsOf d) T0 = some r) (hgT : Gl X T := by rfl) (hg : Gl X "isinstance" := by rfl)
    (he : starEach (a :: [.Name T p2]) X.env = (false, eval a X.env) :: starEach [.Name T p2] X.env := by rfl) (he2 : starEach (.Name T p2 :: []) X.env = (false, eval (.Name T p2) X.env) :: starEach [] X.env := by rfl) (hpl : (backTo pos (starEach [.Name T p2] X.env)).any (·.1) = false := by rfl)
    (hn1 : T ≠ "__name__" := by decide) (hn2 : (T == ("__debug__" : Str)) = false := by decide) : Ev X W ρ (.Call (.Name "isinstance" p) [a, .Name T p2] [] pos) (.bool r) :=
  ev1_of (pe_callB call_isi hg B.isinstance (by decide +kernel) (pa_cons ha.pe (pa_cons (pe_bltn (v := .ty T0) hgT hmT hT rfl hn1 hn2) pa_nil he2) he) (he := he) (hpl := hpl)) fun σ F H M Q ok h => rd ok fun x F1 H1 e1 dx => by
    refine ⟨x, .ty T0, .type (clsOf d), .type T0, r, rfl, .ty T0, ?_, kit_ty hk, h _ F1 H1 e1 (.bl _)⟩
    by_cases hd : d = .none
    · subst hd
      rw [dq_non dx]
      exact tyx_non
    · exact tyx_of (dq_mono e1.sub _ _ dx) hd

/-! ### texts -/
theorem ev_join {pa : Pos} {z : Str} {ys : List Str} (ha : Ev X W ρ a (.str z)) (hb : Bw X W ρ b (ys.map PyData.str)) (c : (ys.map (·.length)).sum + ys.length * z.length ≤ 16777216) (hs : starEach [b] X.env = [(false, eval b X.env)] := by rfl) (hbase : attributeBase a "join" X.env (eval a X.env) = eval a X.env := by rfl)
    (hline : (pa.endLine == pos.line) = true := by rfl) : Ev X W ρ (.Call (.Attribute a "join" pa) [b] [] pos) (.str (Txt.join z ys)) :=
  ev1_of (pe_join ha.pe hb.pe hs hbase hline) fun σ F H M Q ok h => rd ok fun x F1 H1 e1 dx => ⟨⟨z, dq_str dx⟩, F1, M, ok.ext e1, fun y F2 H2 e2 ⟨p, vs, ey, h1, h2⟩ => by
    subst ey
    rw [dqAll_strs h2] at h1
    exact ⟨z, p, ys, dq_str dx, rfl, .inl h1, c, h _ F2 H2 (e1.trans e2) (.str _)⟩⟩
theorem fr_split {pa : Pos} {z y : Str} (ha : Ev X W ρ a (.str z)) (hb : Ev X W ρ b (.str y)) (c : (y.length == 0) = false) (c2 : z.length + 2 ≤ sizeLine) (hs : starEach [b] X.env = [(false, eval b X.env)] := by rfl) (hbase : attributeBase a "split" X.env (eval a X.env) = eval a X.env := by rfl)
    (hline : (pa.endLine == pos.line) = true := by rfl) : Fr X W ρ (.Call (.Attribute a "split" pa) [b] [] pos) ((Txt.split z y).map PyData.str) :=
  fun pins s σ F H M Q I ok h => (pe_split ha.pe hb.pe hs hbase hline).run pins s σ H Q I (rd ok fun x F1 H1 e1 dx => ⟨⟨z, dq_str dx⟩, rd (ok.ext e1) fun w F2 H2 e2 dw => by
    have x := e1.trans e2
    exact ⟨z, y, dq_str dx, by rw [dq_str dw], c, c2, fun l hl => h l _ F2 _ (x.trans (.beside x.sub hl)) (x.h.free hl) (x.sub.free hl) upd_same (strs_dqAll _)⟩⟩)
/-- a text n times -/
def repS (z : Str) (n : Int) : Str := ⟨((List.replicate n.toNat z.cps.toList).flatten).toArray⟩
theorem foldl_app (x : Array Nat) : ∀ (n : Nat) (acc : Array Nat), (List.replicate n x).foldl (· ++ ·) acc = acc ++ ((List.replicate n x.toList).flatten).toArray
  | 0, acc => by simp
  | n + 1, acc => by
    rw [List.replicate_succ, List.foldl_cons, foldl_app x n, List.replicate_succ, List.flatten_cons]
    apply Array.ext'
    simp
def rMulS : R2 := fun x y H Q => ∃ z n, x = .str z ∧ y = .int n ∧ -(2 ^ 63) ≤ n ∧ n < 2 ^ 62 ∧ z.length * n.toNat ≤ 16777216 ∧ Q (.str (repS z n)) H
end
end PV

/-! The pure-value layer: comprehensions, defs and their calls. -/
namespace PV
open PySem PySem.Spec PyProof.Rows L2
def wipeE (ρ : Env) : List Nat → Env
  | [] => ρ
  | v :: vs => (wipeE ρ vs).set v none
theorem wipeE_some {ρ : Env} {i : Nat} {S : Slot} : ∀ {vs : List Nat}, (wipeE ρ vs)[i]? = some (some S) → ρ[i]? = some (some S) ∧ i ∉ vs
  | [], h => ⟨h, by simp⟩
  | v :: vs, h => by
    have h : ((wipeE ρ vs).set v none)[i]? = some (some S) := h
    by_cases e : v = i
    · subst e
      by_cases hl : v < (wipeE ρ vs).length
      · rw [List.getElem?_set_self hl] at h; cases h
      · rw [List.getElem?_eq_none (by simpa using hl)] at h; cases h
    · rw [List.getElem?_set_ne e] at h
      obtain ⟨h1, h2⟩ := wipeE_some h
      exact ⟨h1, by simp [h2, Ne.symm e]⟩
theorem wipeE_length (ρ : Env) : ∀ vs : List Nat, (wipeE ρ vs).length = ρ.length
  | [] => rfl
  | v :: vs => by unfold wipeE; rw [List.length_set, wipeE_length ρ vs]
theorem EOk.wipe {K : PySem.W.Frag} {ρ : Env} {F H : Hp} {σ : St} {M : Nat → Mini} (x : EOk K ρ F σ H M) (vs : List Nat) : EOk K (wipeE ρ vs) F (L2.wipe σ vs) H M where
  len := by rw [wipe_length, wipeE_length]; exact x.len
  sub := x.sub
  at_ := fun i S h => by
    obtain ⟨h1, h2⟩ := wipeE_some h
    rw [wipe_out h2]
    exact x.at_ i S h1
  own := x.own
  apart := x.apart
theorem wipe_set_in {σ : St} {i : Nat} {v : Option V} : ∀ {vs : List Nat}, i ∈ vs → L2.wipe (σ.set i v) vs = L2.wipe σ vs
  | v' :: vs, h => by
    show (L2.wipe (σ.set i v) vs).set v' none = (L2.wipe σ vs).set v' none
    by_cases hv : i ∈ vs
    · rw [wipe_set_in hv]
    · have e : i = v' := by
        rcases List.mem_cons.mp h with e | e
        · exact e
        · exact absurd e hv
      subst e
      have key : ∀ (ws : List Nat) (σ : St), i ∉ ws → L2.wipe (σ.set i v) ws = (L2.wipe σ ws).set i v := by
        intro ws
        induction ws with
        | nil => intro σ _; rfl
        | cons w ws ih =>
          intro σ hn
          have hw : i ≠ w := fun e => hn (by simp [e])
          show (L2.wipe (σ.set i v) ws).set w none = ((L2.wipe σ ws).set w none).set i v
          rw [ih σ (fun z => hn (List.mem_cons_of_mem _ z)), List.set_comm _ _ hw]
      rw [key vs σ hv, List.set_set]
theorem wipe_setAllV : ∀ {is : List Nat} {xs : List V} {σ : St} {vs : List Nat}, (∀ i ∈ is, i ∈ vs) → L2.wipe (setAllV σ is xs) vs = L2.wipe σ vs
  | [], _, _, _, _ => by cases ‹List V› <;> rfl
  | i :: is, [], _, _, _ => rfl
  | i :: is, x :: xs, σ, vs, h => by
    show L2.wipe (setAllV (σ.set i (some x)) is xs) vs = _
    rw [wipe_setAllV fun j hj => h j (List.mem_cons_of_mem _ hj), wipe_set_in (h i List.mem_cons_self)]
theorem wipe_wipe {σ : St} {vs : List Nat} : L2.wipe (L2.wipe σ vs) vs = L2.wipe σ vs := by
  have key : ∀ (ws : List Nat), (∀ w ∈ ws, w ∈ vs) → ∀ σ : St, L2.wipe (L2.wipe σ ws) vs = L2.wipe σ vs := by
    intro ws
    induction ws with
    | nil => intro _ σ; rfl
    | cons w ws ih =>
      intro h σ
      show L2.wipe ((L2.wipe σ ws).set w none) vs = _
      rw [wipe_set_in (h w List.mem_cons_self), ih fun x hx => h x (List.mem_cons_of_mem _ hx)]
  exact key vs (fun _ h => h) σ

section
variable {X : Cx} {W : Wc} {ρ : Env} {e a b elt tg iter : Expr} {es : List Expr} {pos p : Pos} {C : Ec → Addr} {k : Nat} {rest : List Stmt} {Φ : Out → Prop} {scope : Scope}
/-- no error leaves -/
abbrev W0 : Wc := fun _ _ _ => False
abbrev bl (X : Cx) (scope : Scope) (s : Shared) (H : Hp) (Cc : Addr) (cl : List (Str × Addr)) (fp : List Addr) : Cx := X.blk s H scope (compEnvC scope cl Cc X.env) fp
theorem Ctx.blk (c : Ctx X C W k) (s : Shared) (H : Hp) (Cc : Addr) (cl : List (Str × Addr)) (fp : List Addr) : Ctx (bl X scope s H Cc cl fp) C W0 k :=
  ⟨c.calm, c.room, c.nd, PassesOwn.never, fun u s' ⟨_, _, _, _, _, _, _, _, _, _, _, _, _, _, _, _, z⟩ => by
    obtain ⟨_, _, _, z⟩ := z
    exact z.elim⟩
/-- within the block -/
def EvB (X : Cx) (scope : Scope) (ρ : Env) (e : Expr) (d : PyData) : Prop := ∀ (s : Shared) (H : Hp) (Cc : Addr) (cl : List (Str × Addr)) (fp : List Addr), Ev (bl X scope s H Cc cl fp) W0 ρ e d
def TstB (X : Cx) (scope : Scope) (ρ : Env) (e : Expr) (b : Bool) : Prop := ∀ (s : Shared) (H : Hp) (Cc : Addr) (cl : List (Str × Addr)) (fp : List Addr), Tst (bl X scope s H Cc cl fp) W0 ρ e b
def tEvB (X : Cx) (scope : Scope) (e : Expr) : TE := fun σ H Q => ∃ ρ d F M, EvB X scope ρ e d ∧ EOk X.K ρ F σ H M ∧ ∀ v F' H', Ext F H F' H' → Dq X.K F' v d → Q v H'
theorem pe_evB (s : Shared) (H : Hp) (Cc : Addr) (cl : List (Str × Addr)) (fp : List Addr) : PE (bl X scope s H Cc cl fp) e (tEvB X scope e) :=
  ⟨fun pins s1 σ H1 Q I ⟨ρ, d, F, M, h, ok, q⟩ => h s H Cc cl fp pins s1 σ F H1 M Q I ok (fun d' hd => by cases hd; exact q) fun c hc => nomatch hc⟩
def tTstB (X : Cx) (scope : Scope) (e : Expr) : TT := fun σ H Q => ∃ ρ b F M, TstB X scope ρ e b ∧ EOk X.K ρ F σ H M ∧ ∀ F' H', Ext F H F' H' → Q b H'
theorem pt_tstB (s : Shared) (H : Hp) (Cc : Addr) (cl : List (Str × Addr)) (fp : List Addr) : PT (bl X scope s H Cc cl fp) e (tTstB X scope e) :=
  ⟨fun pins s1 σ H1 Q I ⟨ρ, b, F, M, h, ok, q⟩ => h s H Cc cl fp pins s1 σ F H1 M Q I ok q⟩
/-- the tests of a clause: none, or one -/
def IfB (X : Cx) (scope : Scope) (ρ : Env) (ifs : List Expr) (b : Bool) : Prop := match ifs with
  | [] => b = true
  | [c] => TstB X scope ρ c b
  | _ => False
def tIfB (X : Cx) (scope : Scope) (ifs : List Expr) : TT := match ifs with
  | [] => tYes
  | [c] => tTstB X scope c
  | _ => fun _ _ _ => False
theorem pts_ifB {ifs : List Expr} (s : Shared) (H : Hp) (Cc : Addr) (cl : List (Str × Addr)) (fp : List Addr) : PTs (bl X scope s H Cc cl fp) ifs (tIfB X scope ifs) := by
  match ifs with
  | [] => exact pts_nil
  | [c] => exact pts_one (pt_tstB s H Cc cl fp)
  | _ :: _ :: _ => exact ⟨fun _ _ _ _ _ _ z => z.elim⟩
/-- the reading of a comprehension: ks tells of each item what comes of it -/
theorem lc_read {t : Bool} {is vs : List Nat} {ds : List PyData} {ks : List (Option PyData)} {ifs : List Expr} {wi : TI} {σ : St} {F H : Hp} {M : Nat → Mini} {Q : VK} (ok : EOk X.K ρ F σ H M)
    (qi : ∀ (σ : St) (F H : Hp) (M : Nat → Mini) (R : It → Hp → Prop), EOk X.K ρ F σ H M → (∀ J F' H', Ext F H F' H' → Walks X.K J F' ds → R J H') → wi σ H R) (hin : ∀ i ∈ is, i ∈ vs) (hz : ds.length ≤ sizeLine) (hk : ks.length = ds.length)
    (he : ∀ (i : Nat) (d : PyData) (r : Option PyData), ds[i]? = some d → ks[i]? = some r → tgFit t is d ∧ ∃ b, IfB X scope (setAll (wipeE ρ vs) is (tgItems t d)) ifs b ∧ (b = false → r = none) ∧ (b = true → ∃ x, r = some x ∧ EvB X scope (setAll (wipeE ρ vs) is (tgItems t d)) elt x))
    (h : ∀ a ws F' H', Ext F H F' H' → H a = none → F' a = none → H' a = some (.lst ws) → DqAll X.K F' ws (ks.filterMap id) → Q (.ref a) H') : tLc wi (gOf X.K t is) (tIfB X scope ifs) (tEvB X scope elt) vs σ H Q := by
  refine qi σ F H M _ ok fun J F1 H1 x1 wk => ?_
  intro D hD
  have nF1 : F1 D = none := x1.sub.free hD
  refine ⟨fun i m H' => m = ds.length - i ∧ i ≤ ds.length ∧ ∃ F' ws, Ext F1 H1 F' H' ∧ F' D = none ∧ H' D = some (.lst ws) ∧ ws.length ≤ i ∧ DqAll X.K F' ws ((ks.take i).filterMap id), ⟨_, rfl, Nat.zero_le _, F1, [], .beside x1.sub hD, nF1, upd_same, Nat.le_refl _, .nil⟩, ?_⟩
  rintro i m H2 ⟨rfl, hle, F2, ws, x2, n2, h2, hw, dws⟩
  by_cases hlt : i < ds.length
  · refine .inr ⟨wk.go i F2 H2 x2.f x2.sub hlt, fun H' => i + 1 ≤ ds.length ∧ ∃ F' ws, Ext F1 H1 F' H' ∧ F' D = none ∧ H' D = some (.lst ws) ∧ ws.length ≤ i + 1 ∧ DqAll X.K F' ws ((ks.take (i + 1)).filterMap id), fun H' ⟨a1, a2⟩ => ⟨ds.length - (i + 1), by omega, rfl, a1, a2⟩, fun x H3 y => ?_⟩
    obtain ⟨F3, d, x3, hd, dv⟩ := wk.yld i F2 H2 x H3 x2.f x2.sub hlt y
    obtain ⟨r, hr⟩ : ∃ r, ks[i]? = some r := ⟨ks[i], List.getElem?_eq_getElem (by omega)⟩
    obtain ⟨fit, b, hb, hf, ht⟩ := he i d r hd hr
    have n3 : F3 D = none := by
      cases q : F3 D with
      | none => rfl
      | some u =>
        have z := x3.new D u q n2
        rw [z] at h2; cases h2
    have tk : ks.take (i + 1) = ks.take i ++ [r] := by
      have hi : i < ks.length := by omega
      rw [List.take_add_one, hr]
      rfl
    refine gOf_ok x3.sub dv fit fun xs dxs => ⟨by rw [wipe_setAllV hin, wipe_wipe], ?_⟩
    obtain ⟨M4, ok4⟩ := EOk.setAll (is := is) ((((ok.ext x1).wipe vs).ext x2).ext x3) dxs
    have go : ∀ F4 H4, Ext F3 H3 F4 H4 → (if b = true then tEvB X scope elt (setAllV (L2.wipe σ vs) is xs) H4 fun y H5 => ∃ acc, H5 D = some (.lst acc) ∧ acc.length < sizeLine ∧ (i + 1 ≤ ds.length ∧ ∃ F' ws, Ext F1 H1 F' (upd H5 D (.lst (acc ++ [y]))) ∧ F' D = none ∧ (upd H5 D (.lst (acc ++ [y]))) D = some (.lst ws) ∧ ws.length ≤ i + 1 ∧ DqAll X.K F' ws ((ks.take (i + 1)).filterMap id))
        else (i + 1 ≤ ds.length ∧ ∃ F' ws, Ext F1 H1 F' H4 ∧ F' D = none ∧ H4 D = some (.lst ws) ∧ ws.length ≤ i + 1 ∧ DqAll X.K F' ws ((ks.take (i + 1)).filterMap id))) := fun F4 H4 x4 => by
      have h3 : H3 D = some (.lst ws) := x3.h _ _ h2
      have n4 : F4 D = none := by
        cases q : F4 D with
        | none => rfl
        | some u =>
          have z := x4.new D u q n3
          rw [z] at h3; cases h3
      cases b with
      | false =>
        refine iteF ⟨hlt, F4, ws, (x2.trans x3).trans x4, n4, x4.h _ _ h3, Nat.le_succ_of_le hw, ?_⟩
        rw [tk, hf rfl, List.filterMap_append]
        simpa using dqAll_mono (x3.f.trans x4.f) _ _ dws
      | true =>
        obtain ⟨z, rfl, hz'⟩ := ht rfl
        refine iteT ⟨_, z, F4, M4, hz', ok4.ext x4, fun v F5 H5 x5 dz => ?_⟩
        have h4 : H4 D = some (.lst ws) := x4.h _ _ h3
        have n5 : F5 D = none := by
          cases q : F5 D with
          | none => rfl
          | some u =>
            have z := x5.new D u q n4
            rw [z] at h4; cases h4
        have x6 := ((x2.trans x3).trans x4).trans x5
        refine ⟨ws, x5.h _ _ h4, by omega, hlt, F5, ws ++ [v], ⟨x6.f, fun b u e => ?_, fun b u e => ?_, x6.new⟩, n5, upd_same, by rw [List.length_append]; simpa using hw, ?_⟩
        · rw [upd_ne (ne_of_none e hD)]; exact x6.h b u e
        · rw [upd_ne (ne_of_none e n5)]; exact x6.sub b u e
        · rw [tk, List.filterMap_append]
          exact DqAll_app (dqAll_mono ((x3.f.trans x4.f).trans x5.f) _ _ dws) (by simpa using DqAll.cons dz .nil)
    match ifs, hb with
    | [], hb =>
      have hb' : b = true := hb
      subst hb'
      exact go F3 H3 (.refl x3.sub)
    | [c], hb => exact ⟨_, b, F3, M4, hb, ok4, fun F' H' x => go F' H' x⟩
  · have e : i = ds.length := by omega
    subst e
    refine .inl ⟨wk.stop F2 H2 x2.f x2.sub, h D ws F2 H2 (x1.trans x2) (x1.h.free hD) n2 h2 ?_⟩
    rw [← hk, List.take_length] at dws
    exact dws
/-- [elt for tg in iter if ..] -/
theorem fr_lc {t : Bool} {is : List Nat} {ds : List PyData} {ks : List (Option PyData)} {ifs : List Expr} (own : List (Str × Nat)) (c : Ctx X C W k) (hi : Iv X W ρ tg iter ds) (hg : ∀ s H Cc cl fp, TgOk (bl X scope s H Cc cl fp) tg t is) (hz : ds.length ≤ sizeLine) (hk : ks.length = ds.length)
    (he : ∀ (i : Nat) (d : PyData) (r : Option PyData), ds[i]? = some d → ks[i]? = some r → tgFit t is d ∧ ∃ b, IfB X scope (setAll (wipeE ρ (own.map (·.2))) is (tgItems t d)) ifs b ∧ (b = false → r = none) ∧ (b = true → ∃ x, r = some x ∧ EvB X scope (setAll (wipeE ρ (own.map (·.2))) is (tgItems t d)) elt x))
    (hin : ∀ i ∈ is, i ∈ own.map (·.2) := by decide) (ok : BlkOk X.N X.env.scope scope own := by exact blkOk_by (by rfl)) (hs : ∀ x, foldedSetIterable iter X.env x = pure x := by intro _; rfl) : Fr X W ρ (.ListComp elt [⟨tg, iter, ifs, 0⟩] scope pos) (ks.filterMap id) := by
  obtain ⟨wi, hwi, qi⟩ := hi
  exact fun pins s σ F H M Q I ok' h => (pe_lc (own := own) (g := gOf X.K t is) c.calm c.nd hwi ok hg (fun s H Cc cl fp => pts_ifB s H Cc cl fp) (fun s H Cc cl fp => pe_evB s H Cc cl fp) hs).run pins s σ H Q I (lc_read ok' qi hin hz hk he h)
/-- x = [elt for tg in iter if ..], owned; x a local that no block reads -/
theorem sxs_setLc (j : Nat) {x : Str} {pos' spos : Pos} {t : Bool} {is : List Nat} {ds : List PyData} {ks : List (Option PyData)} {ifs : List Expr} (own : List (Str × Nat)) (c : Ctx X C W k) (hi : Iv X W ρ tg iter ds) (hg : ∀ s H Cc cl fp, TgOk (bl X scope s H Cc cl fp) tg t is) (hz : ds.length ≤ sizeLine) (hk : ks.length = ds.length)
    (he : ∀ (i : Nat) (d : PyData) (r : Option PyData), ds[i]? = some d → ks[i]? = some r → tgFit t is d ∧ ∃ b, IfB X scope (setAll (wipeE ρ (own.map (·.2))) is (tgItems t d)) ifs b ∧ (b = false → r = none) ∧ (b = true → ∃ x, r = some x ∧ EvB X scope (setAll (wipeE ρ (own.map (·.2))) is (tgItems t d)) elt x))
    (kk : Sxs X W rest (ρ.set j (some (ow none (ks.filterMap id)))) Φ)
    (hin : ∀ i ∈ is, i ∈ own.map (·.2) := by decide) (ok : BlkOk X.N X.env.scope scope own := by exact blkOk_by (by rfl)) (hs : ∀ x, foldedSetIterable iter X.env x = pure x := by intro _; rfl)
    (hy : X.N[j]? = some x := by rfl) (hyl : X.env.scope.names.lookup x = some .local := by rfl) (hsw : swapsWith (.ListComp elt [⟨tg, iter, ifs, 0⟩] scope pos) (some (.Name x pos')) spos.line X.env = pure true := by exact sw_true rfl rfl rfl (by rfl)) :
    Sxs X W (.Assign [.Name x pos'] (.ListComp elt [⟨tg, iter, ifs, 0⟩] scope pos) spos :: rest) ρ Φ := by
  obtain ⟨wi, hwi, qi⟩ := hi
  exact sxs_of (ps_setLc (own := own) (g := gOf X.K t is) c.calm c.nd hy hyl hsw hwi ok hg (fun s H Cc cl fp => pts_ifB s H Cc cl fp) (fun s H Cc cl fp => pe_evB s H Cc cl fp) hs) fun σ F H M B F0 D ok' q =>
    lc_read ok'.ok qi hin hz hk he fun a ws F' H' x n n' ha dv => ⟨_, Φ, F', _, B, F0, kk, ok'.setO x n n' ha dv, q⟩
/-- every item gives one -/
theorem keep_all (es : List PyData) : (es.map some).filterMap id = es := by
  induction es with
  | nil => rfl
  | cons e es ih => simp

/-! ### defs -/
/-- an argument that is read only -/
def EvS (X : Cx) (W : Wc) (ρ : Env) (e : Expr) (S : Slot) : Prop :=
  ∀ (pins : List (Addr × Obj)) (s : Shared) (σ : St) (F H : Hp) (M : Nat → Mini) (Q : VK), Inv X pins σ H s → EOk X.K ρ F σ H M → (∀ v F' H', Ext F H F' H' → S.R X.K F' v [] → Q v H') →
    wpAny (model X.prog X.w) X.A (eval e X.env) (EP X pins σ Q) X.xe s
theorem Ev.s {d : PyData} (h : Ev X W ρ e d) : EvS X W ρ e (fz d) := fun pins s σ F H M Q I ok q => h pins s σ F H M Q I ok (fun d' hd v F' H' x dv => by cases hd; exact q v F' H' x ⟨rfl, dv⟩) fun c hc => nomatch hc
theorem evs_kn (i : Nat) {x : Str} {pos : Pos} {ds : List PyData} (hd : ρ[i]? = some (some (kn ds))) (hN : X.N[i]? = some x := by rfl) (hv : Vis X.env.scope x := by first | exact Or.inl rfl | exact Or.inr (Or.inl rfl) | exact Or.inr (Or.inr rfl))
    (h1 : (x == ("__debug__" : Str)) = false := by decide) (h2 : (x == ("__classdict__" : Str)) = false := by decide) : EvS X W ρ (.Name x pos) (kn ds) :=
  fun pins s σ F H M Q I ok h => (pe_var hN hv h1 h2).run pins s σ H Q I (by
    obtain ⟨v, e, _, q⟩ := ok.at_ i _ hd
    exact ⟨_, e, h _ F H (.refl ok.sub) ⟨rfl, q⟩⟩)
def SlotsR (K : PySem.W.Frag) (F : Hp) : List V → List Slot → Prop := Paired fun v S => S.R K F v []
theorem SlotsR.mono {K : PySem.W.Frag} {F F' : Hp} (e : Same F F') : ∀ {vs : List V} {Ss : List Slot}, SlotsR K F vs Ss → SlotsR K F' vs Ss
  | _, _, .nil => .nil
  | _, _, .cons (b := S) h t => .cons (S.mono K F F' _ _ e h) (SlotsR.mono e t)
def EvAS (X : Cx) (W : Wc) (ρ : Env) (es : List Expr) (Ss : List Slot) : Prop :=
  ∀ (pos : Pos) (pins : List (Addr × Obj)) (s : Shared) (σ : St) (F H : Hp) (M : Nat → Mini) (Q : List V → Hp → Prop), Inv X pins σ H s → EOk X.K ρ F σ H M →
    (∀ vs F' H', Ext F H F' H' → SlotsR X.K F' vs Ss → Q vs H') → wpAny (model X.prog X.w) X.A (spliced (backTo pos (starEach es X.env))) (AP X pins σ Q) X.xe s
def tEvS (X : Cx) (ρ : Env) (S : Slot) : TE := fun σ H Q => ∃ F M, EOk X.K ρ F σ H M ∧ (∀ v F' H', Ext F H F' H' → S.R X.K F' v [] → Q v H')
theorem EvS.pe {S : Slot} (h : EvS X W ρ e S) : PE X e (tEvS X ρ S) := ⟨fun pins s σ H Q I ⟨F, M, ok, h1⟩ => h pins s σ F H M Q I ok h1⟩
def tEvAS (X : Cx) (ρ : Env) (Ss : List Slot) : TA := fun σ H Q => ∃ F M, EOk X.K ρ F σ H M ∧ (∀ vs F' H', Ext F H F' H' → SlotsR X.K F' vs Ss → Q vs H')
theorem EvAS.pa {Ss : List Slot} (h : EvAS X W ρ es Ss) : PA X es (tEvAS X ρ Ss) := ⟨fun pos pins s σ H Q I ⟨F, M, ok, h1⟩ => h pos pins s σ F H M Q I ok h1⟩
theorem as_nil : EvAS X W ρ [] [] := fun pos pins s σ F H M Q I ok h => pa_nil.run pos pins s σ H Q I (h _ F H (.refl ok.sub) .nil)
theorem as_cons {S : Slot} {Ss : List Slot} (ha : EvS X W ρ e S) (hr : EvAS X W ρ es Ss) (hs : starEach (e :: es) X.env = (false, eval e X.env) :: starEach es X.env := by rfl) : EvAS X W ρ (e :: es) (S :: Ss) :=
  fun pos pins s σ F H M Q I ok h => (pa_cons ha.pe hr.pa hs).run pos pins s σ H Q I ⟨F, M, ok, fun v F1 H1 x1 dv => ⟨F1, M, ok.ext x1, fun vs F2 H2 x2 dvs => h _ F2 H2 (x1.trans x2) (.cons (S.mono _ _ _ _ _ x2.f dv) dvs)⟩⟩

/-- a def that changes nothing and hands back, or raises: ins the arguments, r what comes of them, by an index of any kind -/
def spP (K : PySem.W.Frag) (C : Ec → Addr) {ι : Type} (n : Nat) (ins : ι → List Slot) (pre : ι → Prop) (r : ι → Except Ec Slot → Prop) : Sp := fun vs H Q E =>
  ∃ (i : ι) (F : Hp), Same F H ∧ vs.length = n ∧ SlotsR K F vs (ins i) ∧ pre i ∧
    (∀ S, r i (.ok S) → ∀ v F' H' m, Ext F H F' H' → S.R K F' v m → (∀ a o, (a, o) ∈ m → H' a = some o ∧ F' a = none ∧ H a = none) → Q v H') ∧ (∀ c, r i (.error c) → ∀ F' H', Ext F H F' H' → E (.ref (C c)) none H')
/-- a def of the module, by its promise -/
def Callee (P : Program) (w : World) (K : PySem.W.Frag) (mg : Str → Option Value) (base : Heap) (k : Nat) (x : Str) (sp : Sp) : Prop :=
  ∃ f fd ps, FnOk P w K mg base (L2.CX P w) k f fd ps sp ∧ mg x = some (.ref f) ∧ PySem.W.keepIn K (.ref f) = true ∧ Binds K fd ps []
variable {ι : Type} {n : Nat} {ins : ι → List Slot} {pre : ι → Prop} {r : ι → Except Ec Slot → Prop} {x : Str} {j : Nat}
theorem call_any (c : Ctx X C W k) (G : Callee X.prog X.w X.K X.mg X.base j x (spP X.K C n ins pre r)) (hj : j ≤ k) (i : ι) (hp : pre i) (ha : EvAS X W ρ (e :: es) (ins i)) (hn : (ins i).length = n)
    (hg : Gl X x) (hdb : (x == ("__debug__" : Str)) = false) (he : starEach (e :: es) X.env = (false, eval e X.env) :: starEach es X.env) (hpl : (backTo pos (starEach es X.env)).any (·.1) = false)
    (pins : List (Addr × Obj)) (s : Shared) (σ : St) (F H : Hp) (M : Nat → Mini) (Q : VK) (I : Inv X pins σ H s) (ok : EOk X.K ρ F σ H M)
    (h1 : ∀ S, r i (.ok S) → ∀ v F' H' m, Ext F H F' H' → S.R X.K F' v m → (∀ a o, (a, o) ∈ m → H' a = some o ∧ F' a = none ∧ H a = none) → Q v H') (h2 : ∀ c, r i (.error c) → ∀ F' H', Ext F H F' H' → W c σ H') :
    wpAny (model X.prog X.w) X.A (eval (.Call (.Name x p) (e :: es) [] pos) X.env) (EP X pins σ Q) X.xe s := by
  obtain ⟨f, fd, ps, hF, hm, hk, hb⟩ := G
  refine (pe_callS (E := WE (fun cls d σ H => ∃ c, cls = .ref (C c) ∧ d = none ∧ W c σ H)) hF (c.room.mono hj) hg hm hk hb (fun σ => passAt c.tk σ) ha.pa hdb he hpl).run pins s σ H Q I ?_
  refine ⟨F, M, ok, fun vs F1 H1 x1 dvs => ⟨i, F1, x1.sub, (Paired.length dvs).trans hn, dvs, hp, fun S hS v F' H' m x2 hv hm => ?_, fun c hc F' H' x2 => ⟨c, rfl, rfl, h2 c hc F' H' (x1.trans x2)⟩⟩⟩
  exact h1 S hS v F' H' m (x1.trans x2) hv fun a o hmem => ⟨(hm a o hmem).1, (hm a o hmem).2.1, x1.h.free (hm a o hmem).2.2⟩
theorem evR_call {r' : Except Ec PyData} (c : Ctx X C W k) (G : Callee X.prog X.w X.K X.mg X.base j x (spP X.K C n ins pre r)) (i : ι) (hp : pre i) (hr : ∀ o, r i o → o = r'.map fz) (ha : EvAS X W ρ (e :: es) (ins i)) (hj : j ≤ k := by decide) (hn : (ins i).length = n := by rfl)
    (hg : Gl X x := by rfl) (hdb : (x == ("__debug__" : Str)) = false := by decide) (he : starEach (e :: es) X.env = (false, eval e X.env) :: starEach es X.env := by rfl) (hpl : (backTo pos (starEach es X.env)).any (·.1) = false := by rfl) : EvR X W ρ (.Call (.Name x p) (e :: es) [] pos) r' :=
  fun pins s σ F H M Q I ok h1 h2 => call_any c G hj i hp ha hn hg hdb he hpl pins s σ F H M Q I ok (fun S hS v F' H' m x2 hv hm => by
    have hS := hr _ hS
    cases r' with
    | error c => cases hS
    | ok d =>
      have e : S = fz d := Except.ok.inj hS
      subst e
      exact h1 d rfl v F' H' x2 hv.2) fun c hc F' H' x2 => by
    have hc := hr _ hc
    cases r' with
    | ok d => cases hc
    | error c' =>
      have e : c = c' := Except.error.inj hc
      subst e
      exact h2 _ rfl F' H' x2
theorem ev_call {d : PyData} (c : Ctx X C W k) (G : Callee X.prog X.w X.K X.mg X.base j x (spP X.K C n ins pre r)) (i : ι) (hp : pre i) (hr : ∀ o, r i o → o = .ok (fz d)) (ha : EvAS X W ρ (e :: es) (ins i)) (hj : j ≤ k := by decide) (hn : (ins i).length = n := by rfl)
    (hg : Gl X x := by rfl) (hdb : (x == ("__debug__" : Str)) = false := by decide) (he : starEach (e :: es) X.env = (false, eval e X.env) :: starEach es X.env := by rfl) (hpl : (backTo pos (starEach es X.env)).any (·.1) = false := by rfl) : Ev X W ρ (.Call (.Name x p) (e :: es) [] pos) d :=
  evR_call c G i hp hr ha hj hn hg hdb he hpl
/-- a def that hands back a new list -/
theorem fr_call {ds : List PyData} (c : Ctx X C W k) (G : Callee X.prog X.w X.K X.mg X.base j x (spP X.K C n ins pre r)) (i : ι) (hp : pre i) (hr : ∀ o, r i o → o = .ok (ow none ds)) (ha : EvAS X W ρ (e :: es) (ins i)) (hj : j ≤ k := by decide) (hn : (ins i).length = n := by rfl)
    (hg : Gl X x := by rfl) (hdb : (x == ("__debug__" : Str)) = false := by decide) (he : starEach (e :: es) X.env = (false, eval e X.env) :: starEach es X.env := by rfl) (hpl : (backTo pos (starEach es X.env)).any (·.1) = false := by rfl) : Fr X W ρ (.Call (.Name x p) (e :: es) [] pos) ds :=
  fun pins s σ F H M Q I ok h1 => call_any c G hj i hp ha hn hg hdb he hpl pins s σ F H M Q I ok (fun S hS v F' H' m x2 hv hm => by
    have e : S = ow none ds := Except.ok.inj (hr _ hS)
    subst e
    obtain ⟨a, vs, rfl, em, _, dv⟩ := hv
    obtain ⟨z1, z2, z3⟩ := hm a (.lst vs) (by rw [em]; exact List.mem_cons_self)
    exact h1 a vs F' H' x2 z3 z2 z1 dv) fun c hc F' H' x2 => nomatch hr _ hc
end

/-- a def as it stands behind the top -/
def Df (K : PySem.W.Frag) (mg : Str → Option Value) (x : Str) (st : Stmt) : Prop := ∃ f fd, Fun K x x st f fd ∧ mg x = some (.ref f)
/-- what the body is to reach -/
def bodyS (r : Except Ec Slot → Prop) : Out → Prop
  | .next _ => r (.ok (fz .none))
  | .ret S _ => r (.ok S)
  | .raise c _ => r (.error c)
  | _ => False
/-- .. with the names of its parameters -/
def CalleeP (P : Program) (w : World) (K : PySem.W.Frag) (mg : Str → Option Value) (base : Heap) (k : Nat) (x : Str) (ps : List Str) (sp : Sp) : Prop :=
  ∃ f fd, FnOk P w K mg base (L2.CX P w) k f fd ps sp ∧ mg x = some (.ref f) ∧ PySem.W.keepIn K (.ref f) = true ∧ Binds K fd ps [] ∧ (∀ (s : Shared) (us : List Value), us.length = ps.length → BindsTo s fd ⟨us, []⟩ (ps.zip us)) ∧ ∃ oc od osl, K.lookup f = some ⟨oc, od, .func fd, osl⟩
/-- the one outcome -/
abbrev is {α : Type} (a : α) : α → Prop := fun o => o = a
section
variable {P : Program} {w : World} {K : PySem.W.Frag} {mg : Str → Option Value} {base : Heap} {C : Ec → Addr} {k : Nat} {x : Str} {st : Stmt} {N ps : List Str} {ι : Type} {ins : ι → List Slot} {pre : ι → Prop} {r : ι → Except Ec Slot → Prop}
/-- the context of a def's body -/
abbrev cxD (P : Program) (w : World) (K : PySem.W.Frag) (mg : Str → Option Value) (base : Heap) (N : List Str) (x : Str) (st : Stmt) (f : Addr) (cdv : Value) (A : Around) (outer : List PySem.Env) (s : Shared) (H : Hp) (E : XK) : Cx := cxOf (L2.CX P w) P w K mg base N x (defScope st) f cdv A outer s H E
theorem EOk_args {F H : Hp} : ∀ {vs : List V} {Ss : List Slot} {m : Nat}, Same F H → SlotsR K F vs Ss → EOk K (Ss.map some ++ List.replicate m none) F (vs.map some ++ List.replicate m none) H (fun _ => []) := fun {vs Ss m} s h => by
  refine ⟨?_, s, fun i S hi => ?_, (fun _ _ _ z => nomatch z), (fun _ _ _ _ _ z => nomatch z)⟩
  · simp [Paired.length h]
  · have hl : i < Ss.length := by
      by_cases q : i < Ss.length
      · exact q
      · rw [List.getElem?_append_right (by simpa using q)] at hi
        rw [List.getElem?_replicate] at hi
        split at hi <;> cases hi
    rw [List.getElem?_append_left (by simpa using hl), List.getElem?_map] at hi
    have key : ∀ {vs : List V} {Ss : List Slot} (i : Nat), SlotsR K F vs Ss → Ss[i]? = some S → ∃ v, vs[i]? = some v ∧ S.R K F v [] := by
      intro vs Ss i h
      induction h generalizing i with
      | nil => intro e; simp at e
      | cons hh t ih =>
        intro e
        cases i with
        | zero => simp at e; subst e; exact ⟨_, by simp, hh⟩
        | succ i =>
          obtain ⟨v, h1, h2⟩ := ih i (by simpa using e)
          exact ⟨v, by simpa using h1, h2⟩
    obtain ⟨v, h1, h2⟩ := key i h (by
      cases q : Ss[i]? with
      | none => rw [q] at hi; cases hi
      | some T => rw [q] at hi; simpa using hi)
    refine ⟨v, ?_, h2⟩
    rw [List.getElem?_append_left (by rw [List.length_map, Paired.length h]; exact hl), List.getElem?_map, h1]
    rfl
theorem callee_ofP (D : Df K mg x st) (S : FnScope N ps (defScope st))
    (hb : ∀ (kV doc pm : Value) (an : Option Addr) (cdv ct : Value) (us : List Value), us.length = ps.length → bindArgs (PySem.W.fnOf x x (defArgs st) (defBody st) (defScope st) .none kV doc pm an cdv ct) ⟨us, []⟩ = pure (ps.zip us))
    (body : ∀ (f : Addr) (cdv : Value) (A : Around) (outer : List PySem.Env) (s : Shared) (H : Hp) (E : XK), Ctx (cxD P w K mg base N x st f cdv A outer s H E) C (fun c σ H => E (.ref (C c)) none H) k → ∀ i, pre i →
      Sxs (cxD P w K mg base N x st f cdv A outer s H E) (fun c σ H => E (.ref (C c)) none H) (defBody st) ((ins i).map some ++ List.replicate (N.length - (ins i).length) none) (bodyS (r i))) : CalleeP P w K mg base (k + 1) x ps (spP K C ps.length ins pre r) := by
  obtain ⟨f, fd, F, hm⟩ := D
  refine ⟨f, fd, F.okX S (fun vs H Q E ⟨i, F, _, h, _⟩ => h) (fun cdv A outer s H vs Q E hr h => ?_), hm, F.kp, F.binds hb, ?_⟩
  rotate_left
  · obtain ⟨oc, od, kV, doc, pm, an, cdv, ct, osl, rfl, lk, _⟩ := F.ex
    exact ⟨fun s us hl => .of_eq (hb kV doc pm an cdv ct us hl), _, _, _, lk⟩
  obtain ⟨i, F0, s0, hl, hv, hp, q1, q2⟩ := h
  have tk : Takes (cxD P w K mg base N x st f cdv A outer s H E) (fun cls d σ H => ∃ c, cls = .ref (C c) ∧ d = none ∧ E (.ref (C c)) none H) :=
    Takes.imp (takes_of rfl rfl rfl rfl) fun cls d σ H ⟨c, e1, e2, z⟩ => by subst e1 e2; exact z
  have cc : Ctx (cxD P w K mg base N x st f cdv A outer s H E) C (fun c σ H => E (.ref (C c)) none H) k := ⟨rfl, hr, S.nd, passes_of rfl, tk⟩
  have b := body f cdv A outer s H E cc i hp
  have el : N.length - (ins i).length = N.length - vs.length := by rw [Paired.length hv]
  have ok : EOk K ((ins i).map some ++ List.replicate (N.length - (ins i).length) none) F0 (start N vs) H (fun _ => []) := by
    rw [el]; exact EOk_args s0 hv
  have gr : ∀ {F' H' : Hp} {ρ : Env} {σ : St} {M : Nat → Mini}, PInv K H F0 ρ F' σ H' M → Ext F0 H F' H' := fun y => ⟨y.f0, y.base, y.ok.sub, y.nb⟩
  refine ⟨_, pss_Sxs _ _ _, _, _, F0, _, H, F0, b, ⟨ok, .refl _, .refl _, (fun a o h1 h2 => by rw [h1] at h2; cases h2), fun _ _ _ z => nomatch z⟩, fun o ho => ?_⟩
  cases o with
  | next ρ => exact fun F' σ H' M y => q1 _ ho .non F' H' [] (gr y) ⟨rfl, .non⟩ fun _ _ z => nomatch z
  | ret S ρ =>
    intro v F' σ H' M y
    obtain ⟨v', e, hv'⟩ := y.ok.at_ 0 S rfl
    have e' : v = v' := by simpa using e
    subst e'
    exact q1 S ho v F' H' (M 0) (gr y) hv' fun a o hm => ⟨(y.ok.own 0 a o hm).1, (y.ok.own 0 a o hm).2, y.mb 0 a o hm⟩
  | brk ρ => exact ho.elim
  | cont ρ => exact ho.elim
  | raise c ρ => exact fun F' σ H' M y => q2 c ho F' H' (gr y)
theorem callee_of (D : Df K mg x st) (S : FnScope N ps (defScope st))
    (hb : ∀ (kV doc pm : Value) (an : Option Addr) (cdv ct : Value) (us : List Value), us.length = ps.length → bindArgs (PySem.W.fnOf x x (defArgs st) (defBody st) (defScope st) .none kV doc pm an cdv ct) ⟨us, []⟩ = pure (ps.zip us))
    (body : ∀ (f : Addr) (cdv : Value) (A : Around) (outer : List PySem.Env) (s : Shared) (H : Hp) (E : XK), Ctx (cxD P w K mg base N x st f cdv A outer s H E) C (fun c σ H => E (.ref (C c)) none H) k → ∀ i, pre i →
      Sxs (cxD P w K mg base N x st f cdv A outer s H E) (fun c σ H => E (.ref (C c)) none H) (defBody st) ((ins i).map some ++ List.replicate (N.length - (ins i).length) none) (bodyS (r i))) : Callee P w K mg base (k + 1) x (spP K C ps.length ins pre r) := 
  let ⟨f, fd, h1, h2, h3, h4, _⟩ := callee_ofP D S hb body
  ⟨f, fd, ps, h1, h2, h3, h4⟩
end
end PV

/-! The pure-value layer: trees of owned lists and tuples. -/
namespace PV
open PySem PySem.Spec PyProof.Rows L2
/-- data, parts of which are owned (l: where it stands, if that is told) -/
inductive T where
  | fz (d : PyData)
  | lst (l : Option Addr) (ts : List T)
  | tup (l : Option Addr) (ts : List T)
mutual
def T.er : T → PyData
  | .fz d => d
  | .lst _ ts => .list (T.ers ts)
  | .tup _ ts => .tuple (T.ers ts)
def T.ers : List T → List PyData
  | [] => []
  | t :: ts => t.er :: T.ers ts
end
theorem ers_map : ∀ ts : List T, T.ers ts = ts.map T.er
  | [] => rfl
  | t :: ts => by rw [T.ers, List.map_cons, ers_map ts]
def Ap (m m' : Mini) : Prop := ∀ (a : Addr) (o o' : HO), (a, o) ∈ m → (a, o') ∉ m'
mutual
inductive OT (K : PySem.W.Frag) (F : Hp) : V → T → Mini → Prop
  | fz {v : V} {d : PyData} : Dq K F v d → OT K F v (.fz d) []
  | lst {a : Addr} {l : Option Addr} {vs : List V} {ts : List T} {m : Mini} : (∀ q, l = some q → a = q) → OTs K F vs ts m → (∀ o, (a, o) ∉ m) → OT K F (.ref a) (.lst l ts) ((a, .lst vs) :: m)
  | tup {a : Addr} {l : Option Addr} {vs : List V} {ts : List T} {m : Mini} : (∀ q, l = some q → a = q) → OTs K F vs ts m → (∀ o, (a, o) ∉ m) → OT K F (.ref a) (.tup l ts) ((a, .tup vs) :: m)
inductive OTs (K : PySem.W.Frag) (F : Hp) : List V → List T → Mini → Prop
  | nil : OTs K F [] [] []
  | cons {v : V} {t : T} {m : Mini} {vs : List V} {ts : List T} {m' : Mini} : OT K F v t m → OTs K F vs ts m' → Ap m m' → OTs K F (v :: vs) (t :: ts) (m ++ m')
end
section
variable {K : PySem.W.Frag} {F F' H : Hp}
mutual
theorem OT.mono (e : Same F F') : ∀ (t : T) (v : V) (m : Mini), OT K F v t m → OT K F' v t m
  | .fz d, _, _, h => by cases h with | fz h => exact .fz (dq_mono e _ _ h)
  | .lst l ts, _, _, h => by cases h with | lst h1 h2 h3 => exact .lst h1 (OTs.mono e ts _ _ h2) h3
  | .tup l ts, _, _, h => by cases h with | tup h1 h2 h3 => exact .tup h1 (OTs.mono e ts _ _ h2) h3
theorem OTs.mono (e : Same F F') : ∀ (ts : List T) (vs : List V) (m : Mini), OTs K F vs ts m → OTs K F' vs ts m
  | [], _, _, h => by cases h; exact .nil
  | t :: ts, _, _, h => by cases h with | cons h1 h2 h3 => exact .cons (OT.mono e t _ _ h1) (OTs.mono e ts _ _ h2) h3
end
mutual
theorem OT.dq (s : Same F H) : ∀ (t : T) (v : V) (m : Mini), OT K F v t m → (∀ a o, (a, o) ∈ m → H a = some o) → Dq K H v t.er
  | .fz d, _, _, h, q => by cases h with | fz h => exact dq_mono s _ _ h
  | .lst l ts, _, _, h, q => by
    cases h with
    | lst h1 h2 h3 =>
      have e : T.er (.lst l ts) = .list (T.ers ts) := by rw [T.er]
      rw [e]
      exact .lst (.inl (q _ _ List.mem_cons_self)) (OTs.dq s ts _ _ h2 fun a o h => q a o (List.mem_cons_of_mem _ h))
  | .tup l ts, _, _, h, q => by
    cases h with
    | tup h1 h2 h3 =>
      have e : T.er (.tup l ts) = .tuple (T.ers ts) := by rw [T.er]
      rw [e]
      exact .tup (q _ _ List.mem_cons_self) (OTs.dq s ts _ _ h2 fun a o h => q a o (List.mem_cons_of_mem _ h))
theorem OTs.dq (s : Same F H) : ∀ (ts : List T) (vs : List V) (m : Mini), OTs K F vs ts m → (∀ a o, (a, o) ∈ m → H a = some o) → DqAll K H vs (T.ers ts)
  | [], _, _, h, q => by cases h; rw [T.ers]; exact .nil
  | t :: ts, _, _, h, q => by
    cases h with
    | cons h1 h2 h3 =>
      rw [T.ers]
      exact .cons (OT.dq s t _ _ h1 fun a o h => q a o (List.mem_append_left _ h)) (OTs.dq s ts _ _ h2 fun a o h => q a o (List.mem_append_right _ h))
end
theorem OTs.len : ∀ {vs : List V} {ts : List T} {m : Mini}, OTs K F vs ts m → vs.length = ts.length
  | _, _, _, .nil => rfl
  | _, _, _, .cons _ t _ => congrArg (· + 1) (OTs.len t)
/-- frozen items as a tree's -/
theorem OTs.ofDq : ∀ {vs : List V} {ds : List PyData}, DqAll K F vs ds → OTs K F vs (ds.map T.fz) []
  | _, _, .nil => .nil
  | _, _, .cons h t => .cons (m := []) (.fz h) (OTs.ofDq t) fun _ _ _ h => nomatch h
theorem OTs.app : ∀ {vs ws : List V} {ts us : List T} {m m' : Mini}, OTs K F vs ts m → OTs K F ws us m' → Ap m m' → OTs K F (vs ++ ws) (ts ++ us) (m ++ m')
  | _, _, _, _, _, _, .nil, h, _ => h
  | _, _, _, _, _, _, .cons (m := m1) (m' := m2) h t a, h', a' => by
    rw [List.append_assoc]
    refine .cons h (OTs.app t h' fun b o o' hm => a' b o o' (List.mem_append_right _ hm)) fun b o o' hm hm' => ?_
    rcases List.mem_append.mp hm' with z | z
    · exact a b o o' hm z
    · exact a' b o o' (List.mem_append_left _ hm) z
theorem OTs.one {v : V} {t : T} {m : Mini} (h : OT K F v t m) : OTs K F [v] [t] m := by
  have z := OTs.cons h .nil (fun _ _ _ _ h => nomatch h)
  rw [List.append_nil] at z
  exact z
/-- one item: what stands there, and what comes of putting another thing there -/
theorem OTs.at : ∀ {vs : List V} {ts : List T} {m : Mini} {k : Nat} {u : T}, OTs K F vs ts m → ts[k]? = some u → ∃ v mu, vs[k]? = some v ∧ OT K F v u mu ∧ (∀ x, x ∈ mu → x ∈ m) ∧
    ∀ (w : V) (u' : T) (mu' : Mini), OT K F w u' mu' → (∀ b o, (b, o) ∈ mu' → (∃ o', (b, o') ∈ mu) ∨ ∀ o', (b, o') ∉ m) → ∃ m', OTs K F (vs.set k w) (ts.set k u') m' ∧ ∀ b o, (b, o) ∈ m' → ((b, o) ∈ m ∧ ∀ o', (b, o') ∉ mu) ∨ (b, o) ∈ mu'
  | _, _, _, _, _, .nil, e => by simp at e
  | _, _, _, 0, u, .cons (v := v) (m := m1) (m' := m2) (vs := vs) (ts := ts) h t a, e => by
    have e : _ = u := Option.some.inj e
    subst e
    refine ⟨v, m1, rfl, h, fun x hx => List.mem_append_left _ hx, fun w u' mu' hw hq => ⟨mu' ++ m2, .cons hw t fun b o o' h1 h2 => ?_, fun b o hm => ?_⟩⟩
    · rcases hq b o h1 with ⟨o2, z⟩ | z
      · exact a b o2 o' z h2
      · exact z o' (List.mem_append_right _ h2)
    · rcases List.mem_append.mp hm with z | z
      · exact .inr z
      · exact .inl ⟨List.mem_append_right _ z, fun o' hz => a b o' o hz z⟩
  | _, _, _, k + 1, u, .cons (v := v) (t := t0) (m := m1) (m' := m2) (vs := vs) (ts := ts) h t a, e => by
    obtain ⟨w, mu, h1, h2, h3, h4⟩ := OTs.at (k := k) (u := u) t (by simpa using e)
    refine ⟨w, mu, by simpa using h1, h2, fun x hx => List.mem_append_right _ (h3 x hx), fun w' u' mu' hw hq => ?_⟩
    obtain ⟨m', q1, q2⟩ := h4 w' u' mu' hw fun b o hm => by
      rcases hq b o hm with z | z
      · exact .inl z
      · exact .inr fun o' hz => z o' (List.mem_append_right _ hz)
    refine ⟨m1 ++ m', .cons h q1 fun b o o' z1 z2 => ?_, fun b o hm => ?_⟩
    · rcases q2 b o' z2 with ⟨z, _⟩ | z
      · exact a b o o' z1 z
      · rcases hq b o' z with ⟨o2, z3⟩ | z3
        · exact a b o o2 z1 (h3 _ z3)
        · exact z3 o (List.mem_append_left _ z1)
    · rcases List.mem_append.mp hm with z | z
      · exact .inl ⟨List.mem_append_left _ z, fun o' hz => a b o o' z (h3 _ hz)⟩
      · rcases q2 b o z with ⟨z1, z2⟩ | z1
        · exact .inl ⟨List.mem_append_right _ z1, z2⟩
        · exact .inr z1
/-- the first k items alone -/
theorem OTs.take : ∀ {vs : List V} {ts : List T} {m : Mini} (k : Nat), OTs K F vs ts m → ∃ m', OTs K F (vs.take k) (ts.take k) m' ∧ ∀ x, x ∈ m' → x ∈ m
  | _, _, _, 0, _ => ⟨[], .nil, fun _ h => nomatch h⟩
  | _, _, _, _ + 1, .nil => ⟨[], .nil, fun _ h => nomatch h⟩
  | _, _, _, k + 1, .cons (m := m1) h t a => by
    obtain ⟨m', q1, q2⟩ := OTs.take k t
    refine ⟨m1 ++ m', .cons h q1 fun b o o' z1 z2 => a b o o' z1 (q2 _ z2), fun x hx => ?_⟩
    rcases List.mem_append.mp hx with z | z
    · exact List.mem_append_left _ z
    · exact List.mem_append_right _ (q2 _ z)
end
/-! ### parts of a tree -/
def T.at? : T → List Nat → Option T
  | t, [] => some t
  | .lst _ ts, k :: π => match ts[k]? with
    | some t => t.at? π
    | none => none
  | .tup _ ts, k :: π => match ts[k]? with
    | some t => t.at? π
    | none => none
  | .fz _, _ :: _ => none
def T.put : T → List Nat → T → T
  | _, [], u => u
  | .lst l ts, k :: π, u => match ts[k]? with
    | some t => .lst l (ts.set k (t.put π u))
    | none => .lst l ts
  | .tup l ts, k :: π, u => match ts[k]? with
    | some t => .tup l (ts.set k (t.put π u))
    | none => .tup l ts
  | .fz d, _ :: _, _ => .fz d
/-- the value that stands there -/
def NodeV (H : Hp) : V → List Nat → V → Prop
  | v, [], w => v = w
  | v, k :: π, w => ∃ a vs u, v = .ref a ∧ (H a = some (.lst vs) ∨ H a = some (.tup vs)) ∧ vs[k]? = some u ∧ NodeV H u π w
theorem NodeV.same {H H' : Hp} (e : Same H H') : ∀ {π : List Nat} {v w : V}, NodeV H v π w → NodeV H' v π w
  | [], _, _, h => h
  | k :: π, _, _, ⟨a, vs, u, h1, h2, h3, h4⟩ => ⟨a, vs, u, h1, h2.imp (e _ _) (e _ _), h3, NodeV.same e h4⟩
theorem NodeV.inj {H : Hp} : ∀ {π : List Nat} {v w w' : V}, NodeV H v π w → NodeV H v π w' → w = w'
  | [], _, _, _, h, h' => h.symm.trans h'
  | k :: π, _, _, _, ⟨a, vs, u, h1, h2, h3, h4⟩, ⟨a', vs', u', h1', h2', h3', h4'⟩ => by
    have e : a = a' := V.ref.inj (h1.symm.trans h1')
    subst e
    have e : vs = vs' := by
      rcases h2 with h2 | h2 <;> rcases h2' with h2' | h2' <;> rw [h2] at h2' <;> cases h2' <;> rfl
    subst e
    rw [h3] at h3'; cases h3'
    exact NodeV.inj h4 h4'
theorem NodeV.snoc {H : Hp} : ∀ {π : List Nat} {v w : V} {a : Addr} {vs : List V} {k : Nat} {u : V}, NodeV H v π w → w = .ref a → (H a = some (.lst vs) ∨ H a = some (.tup vs)) → vs[k]? = some u → NodeV H v (π ++ [k]) u
  | [], _, _, a, vs, k, u, h, e, h2, h3 => by
    have h' : _ = _ := h
    subst h'
    exact ⟨a, vs, u, e, h2, h3, rfl⟩
  | j :: π, _, _, _, _, _, _, ⟨a, vs, u, h1, h2, h3, h4⟩, e, h5, h6 => ⟨a, vs, u, h1, h2, h3, NodeV.snoc h4 e h5 h6⟩
theorem at_snoc : ∀ {π : List Nat} {t u : T} {k : Nat} {w : T}, t.at? π = some u → u.at? [k] = some w → t.at? (π ++ [k]) = some w
  | [], t, u, k, w, h, h' => by
    have e : t = u := Option.some.inj (by simpa [T.at?] using h)
    subst e
    exact h'
  | j :: π, .fz d, u, k, w, h, _ => by simp [T.at?] at h
  | j :: π, .lst l ts, u, k, w, h, h' => by
    simp only [T.at?, List.cons_append] at h ⊢
    cases q : ts[j]? with
    | none => rw [q] at h; cases h
    | some t => rw [q] at h; exact at_snoc h h'
  | j :: π, .tup l ts, u, k, w, h, h' => by
    simp only [T.at?, List.cons_append] at h ⊢
    cases q : ts[j]? with
    | none => rw [q] at h; cases h
    | some t => rw [q] at h; exact at_snoc h h'
section
variable {K : PySem.W.Frag} {F H : Hp}
theorem OT.get : ∀ {π : List Nat} {t u : T} {v : V} {m : Mini}, OT K F v t m → (∀ a o, (a, o) ∈ m → H a = some o) → t.at? π = some u → ∃ w m1, NodeV H v π w ∧ OT K F w u m1 ∧ ∀ x, x ∈ m1 → x ∈ m
  | [], t, u, v, m, h, _, e => by
    have e : t = u := Option.some.inj (by simpa [T.at?] using e)
    subst e
    exact ⟨v, m, rfl, h, fun _ z => z⟩
  | k :: π, .fz d, u, v, m, h, _, e => by simp [T.at?] at e
  | k :: π, .lst l ts, u, v, m, h, q, e => by
    simp only [T.at?] at e
    cases z : ts[k]? with
    | none => rw [z] at e; cases e
    | some t =>
      rw [z] at e
      cases h with
      | @lst a l vs ts m1 h1 h2 h3 =>
        obtain ⟨w, mu, g1, g2, g3, _⟩ := h2.at z
        obtain ⟨x, m2, k1, k2, k3⟩ := OT.get g2 (fun a o hm => q a o (List.mem_cons_of_mem _ (g3 _ hm))) e
        exact ⟨x, m2, ⟨a, vs, w, rfl, .inl (q _ _ List.mem_cons_self), g1, k1⟩, k2, fun y hy => List.mem_cons_of_mem _ (g3 _ (k3 y hy))⟩
  | k :: π, .tup l ts, u, v, m, h, q, e => by
    simp only [T.at?] at e
    cases z : ts[k]? with
    | none => rw [z] at e; cases e
    | some t =>
      rw [z] at e
      cases h with
      | @tup a l vs ts m1 h1 h2 h3 =>
        obtain ⟨w, mu, g1, g2, g3, _⟩ := h2.at z
        obtain ⟨x, m2, k1, k2, k3⟩ := OT.get g2 (fun a o hm => q a o (List.mem_cons_of_mem _ (g3 _ hm))) e
        exact ⟨x, m2, ⟨a, vs, w, rfl, .inr (q _ _ List.mem_cons_self), g1, k1⟩, k2, fun y hy => List.mem_cons_of_mem _ (g3 _ (k3 y hy))⟩
/-- a list within a tree: what comes of other items there -/
theorem OT.mut : ∀ {π : List Nat} {t : T} {l : Option Addr} {ts : List T} {v : V} {m : Mini}, OT K F v t m → t.at? π = some (.lst l ts) → ∃ a vs m1, (a, HO.lst vs) ∈ m ∧ (∀ q, l = some q → a = q) ∧ OTs K F vs ts m1 ∧ (∀ x, x ∈ m1 → x ∈ m) ∧ (∀ o, (a, o) ∉ m1) ∧
    (∀ H : Hp, (∀ b o, (b, o) ∈ m → H b = some o) → NodeV H v π (.ref a)) ∧
    ∀ (l' : Option Addr) (vs' : List V) (ts' : List T) (m2 : Mini), (∀ q, l' = some q → a = q) → OTs K F vs' ts' m2 → (∀ b o, (b, o) ∈ m2 → b ≠ a ∧ ((b, o) ∈ m1 ∨ ∀ o', (b, o') ∉ m)) →
      ∃ m', OT K F v (t.put π (.lst l' ts')) m' ∧ ∀ b o, (b, o) ∈ m' → (b ≠ a ∧ (b, o) ∈ m) ∨ (b = a ∧ o = .lst vs') ∨ (b, o) ∈ m2
  | [], t, l, ts, v, m, h, e => by
    have e : t = .lst l ts := Option.some.inj (by simpa [T.at?] using e)
    subst e
    cases h with
    | @lst a l vs ts m1 h1 h2 h3 =>
      refine ⟨a, vs, m1, List.mem_cons_self, h1, h2, fun x hx => List.mem_cons_of_mem _ hx, h3, fun H _ => rfl, fun l' vs' ts' m2 hl' q1 q2 => ⟨(a, .lst vs') :: m2, by rw [T.put]; exact .lst hl' q1 fun o z => (q2 a o z).1 rfl, fun b o hm => ?_⟩⟩
      rcases List.mem_cons.mp hm with z | z
      · cases z; exact .inr (.inl ⟨rfl, rfl⟩)
      · exact .inr (.inr z)
  | k :: π, .fz d, l, ts, v, m, h, e => by simp [T.at?] at e
  | k :: π, .lst l0 us, l, ts, v, m, h, e => by
    simp only [T.at?] at e
    cases z : us[k]? with
    | none => rw [z] at e; cases e
    | some t =>
      rw [z] at e
      cases h with
      | @lst a0 _ vs0 _ mm h1 h2 h3 =>
        obtain ⟨w, mu, g1, g2, g3, g4⟩ := h2.at z
        obtain ⟨a, vs, m1, k1, k2, k3, k4, k5, k6, k7⟩ := OT.mut g2 e
        have na : a ≠ a0 := fun x => by subst x; exact h3 _ (g3 _ k1)
        refine ⟨a, vs, m1, List.mem_cons_of_mem _ (g3 _ k1), k2, k3, fun x hx => List.mem_cons_of_mem _ (g3 _ (k4 x hx)), k5, fun H q => ⟨a0, vs0, w, rfl, .inl (q _ _ List.mem_cons_self), g1, k6 H fun b o hm => q b o (List.mem_cons_of_mem _ (g3 _ hm))⟩, fun l' vs' ts' m2 hl' q1 q2 => ?_⟩
        obtain ⟨mu', r1, r2⟩ := k7 l' vs' ts' m2 hl' q1 fun b o hm => ⟨(q2 b o hm).1, (q2 b o hm).2.imp id fun hz o' hm' => hz o' (List.mem_cons_of_mem _ (g3 _ hm'))⟩
        have out : ∀ b o, (b, o) ∈ mu' → (∃ o', (b, o') ∈ mu) ∨ ∀ o', (b, o') ∉ mm := fun b o hm => by
          rcases r2 b o hm with ⟨_, y⟩ | ⟨rfl, _⟩ | y
          · exact .inl ⟨o, y⟩
          · exact .inl ⟨_, k1⟩
          · rcases (q2 b o y).2 with y' | y'
            · exact .inl ⟨o, k4 _ y'⟩
            · exact .inr fun o' hz => y' o' (List.mem_cons_of_mem _ hz)
        obtain ⟨m', s1, s2⟩ := g4 w _ mu' r1 out
        have es : vs0.set k w = vs0 := by
          apply List.ext_getElem?
          intro i
          by_cases hi : k = i
          · subst hi
            rw [List.getElem?_set_self (List.getElem?_eq_some_iff.mp g1).1, g1]
          · rw [List.getElem?_set_ne hi]
        rw [es] at s1
        refine ⟨(a0, .lst vs0) :: m', ?_, fun b o hm => ?_⟩
        · rw [T.put, z]
          refine .lst h1 s1 fun o hm => ?_
          rcases s2 a0 o hm with ⟨y, _⟩ | y
          · exact h3 o y
          · rcases r2 a0 o y with ⟨_, y'⟩ | ⟨y', _⟩ | y'
            · exact h3 o (g3 _ y')
            · exact na y'.symm
            · rcases (q2 a0 o y').2 with y2 | y2
              · exact h3 o (g3 _ (k4 _ y2))
              · exact y2 _ List.mem_cons_self
        · rcases List.mem_cons.mp hm with y | y
          · cases y
            exact .inl ⟨Ne.symm na, List.mem_cons_self⟩
          · rcases s2 b o y with ⟨y1, y2⟩ | y1
            · exact .inl ⟨fun x => by subst x; exact y2 _ k1, List.mem_cons_of_mem _ y1⟩
            · rcases r2 b o y1 with ⟨x1, x2⟩ | x | x
              · exact .inl ⟨x1, List.mem_cons_of_mem _ (g3 _ x2)⟩
              · exact .inr (.inl x)
              · exact .inr (.inr x)
  | k :: π, .tup l0 us, l, ts, v, m, h, e => by
    simp only [T.at?] at e
    cases z : us[k]? with
    | none => rw [z] at e; cases e
    | some t =>
      rw [z] at e
      cases h with
      | @tup a0 _ vs0 _ mm h1 h2 h3 =>
        obtain ⟨w, mu, g1, g2, g3, g4⟩ := h2.at z
        obtain ⟨a, vs, m1, k1, k2, k3, k4, k5, k6, k7⟩ := OT.mut g2 e
        have na : a ≠ a0 := fun x => by subst x; exact h3 _ (g3 _ k1)
        refine ⟨a, vs, m1, List.mem_cons_of_mem _ (g3 _ k1), k2, k3, fun x hx => List.mem_cons_of_mem _ (g3 _ (k4 x hx)), k5, fun H q => ⟨a0, vs0, w, rfl, .inr (q _ _ List.mem_cons_self), g1, k6 H fun b o hm => q b o (List.mem_cons_of_mem _ (g3 _ hm))⟩, fun l' vs' ts' m2 hl' q1 q2 => ?_⟩
        obtain ⟨mu', r1, r2⟩ := k7 l' vs' ts' m2 hl' q1 fun b o hm => ⟨(q2 b o hm).1, (q2 b o hm).2.imp id fun hz o' hm' => hz o' (List.mem_cons_of_mem _ (g3 _ hm'))⟩
        have out : ∀ b o, (b, o) ∈ mu' → (∃ o', (b, o') ∈ mu) ∨ ∀ o', (b, o') ∉ mm := fun b o hm => by
          rcases r2 b o hm with ⟨_, y⟩ | ⟨rfl, _⟩ | y
          · exact .inl ⟨o, y⟩
          · exact .inl ⟨_, k1⟩
          · rcases (q2 b o y).2 with y' | y'
            · exact .inl ⟨o, k4 _ y'⟩
            · exact .inr fun o' hz => y' o' (List.mem_cons_of_mem _ hz)
        obtain ⟨m', s1, s2⟩ := g4 w _ mu' r1 out
        have es : vs0.set k w = vs0 := by
          apply List.ext_getElem?
          intro i
          by_cases hi : k = i
          · subst hi
            rw [List.getElem?_set_self (List.getElem?_eq_some_iff.mp g1).1, g1]
          · rw [List.getElem?_set_ne hi]
        rw [es] at s1
        refine ⟨(a0, .tup vs0) :: m', ?_, fun b o hm => ?_⟩
        · rw [T.put, z]
          refine .tup h1 s1 fun o hm => ?_
          rcases s2 a0 o hm with ⟨y, _⟩ | y
          · exact h3 o y
          · rcases r2 a0 o y with ⟨_, y'⟩ | ⟨y', _⟩ | y'
            · exact h3 o (g3 _ y')
            · exact na y'.symm
            · rcases (q2 a0 o y').2 with y2 | y2
              · exact h3 o (g3 _ (k4 _ y2))
              · exact y2 _ List.mem_cons_self
        · rcases List.mem_cons.mp hm with y | y
          · cases y
            exact .inl ⟨Ne.symm na, List.mem_cons_self⟩
          · rcases s2 b o y with ⟨y1, y2⟩ | y1
            · exact .inl ⟨fun x => by subst x; exact y2 _ k1, List.mem_cons_of_mem _ y1⟩
            · rcases r2 b o y1 with ⟨x1, x2⟩ | x | x
              · exact .inl ⟨x1, List.mem_cons_of_mem _ (g3 _ x2)⟩
              · exact .inr (.inl x)
              · exact .inr (.inr x)
end
/-- a name that owns a tree -/
def tr (t : T) : Slot := ⟨fun K F v m => OT K F v t m, fun _ _ _ _ _ e h => OT.mono e _ _ _ h⟩
/-- a name that holds what stands at l -/
def adr (l : Addr) : Slot := ⟨fun _ _ v m => m = [] ∧ v = .ref l, fun _ _ _ _ _ _ h => h⟩
end PV

/-! The pure-value layer: rules for trees. -/
namespace PV
open PySem PySem.Spec PyProof.Rows L2
/-- the frozen part with the objects of m -/
noncomputable def addM (F : Hp) (H : Hp) (m : Mini) : Hp := fun a => open Classical in if (∃ o, (a, o) ∈ m) then H a else F a
section
variable {F H : Hp} {m : Mini}
theorem addM_in {a : Addr} {o : HO} (h : (a, o) ∈ m) : addM F H m a = H a := if_pos ⟨o, h⟩
theorem addM_out {a : Addr} (h : ∀ o, (a, o) ∉ m) : addM F H m a = F a := if_neg fun ⟨o, z⟩ => h o z
theorem addM_cases (a : Addr) : (∃ o, (a, o) ∈ m) ∨ ∀ o, (a, o) ∉ m := by
  by_cases h : ∃ o, (a, o) ∈ m
  · exact .inl h
  · exact .inr fun o z => h ⟨o, z⟩
theorem addM_sub (s : Same F H) : Same (addM F H m) H := fun a o e => by
  rcases addM_cases (m := m) a with ⟨u, z⟩ | z
  · rw [addM_in z] at e; exact e
  · rw [addM_out z] at e; exact s a o e
theorem addM_ge (n : ∀ a o, (a, o) ∈ m → F a = none) : Same F (addM F H m) := fun a o e => by
  rw [addM_out fun u z => ?_]
  · exact e
  · have := n a u z
    rw [this] at e; cases e
theorem addM_dq {K : PySem.W.Frag} (s : Same F H) (n : ∀ a o, (a, o) ∈ m → F a = none) (hm : ∀ a o, (a, o) ∈ m → H a = some o) {t : T} {v : V} (h : OT K F v t m) : Dq K (addM F H m) v t.er :=
  OT.dq (addM_ge n) t v m h fun a o z => by rw [addM_in z]; exact hm a o z
end
section
variable {K : PySem.W.Frag} {B F0 F F' H H' : Hp} {ρ : Env} {σ : St} {M : Nat → Mini}
/-- what a name owns is frozen -/
theorem PInv.freezeT {i : Nat} {t : T} (x : PInv K B F0 ρ F σ H M) (hi : ρ[i]? = some (some (tr t))) : ∃ F' M', PInv K B F0 (ρ.set i (some (fz t.er))) F' σ H M' := by
  obtain ⟨v, hσ, h⟩ := x.ok.at_ i _ hi
  have hH : ∀ a o, (a, o) ∈ M i → H a = some o := fun a o z => (x.ok.own i a o z).1
  have hF : ∀ a o, (a, o) ∈ M i → F a = none := fun a o z => (x.ok.own i a o z).2
  have sF := addM_ge (H := H) hF
  refine ⟨addM F H (M i), upM M i [], ⟨by rw [List.length_set]; exact x.ok.len, addM_sub x.ok.sub, fun j T h' => ?_, fun j b o h' => ?_, fun j k b o o' h1 h2 => ?_⟩, x.base, x.f0.trans sF, fun b u h1 h2 => ?_, fun j b o h' => ?_⟩
  · by_cases hj : j = i
    · subst hj
      have hl : j < ρ.length := (List.getElem?_eq_some_iff.mp hi).1
      rw [List.getElem?_set_self hl] at h'
      cases h'
      exact ⟨_, hσ, upM_same, addM_dq x.ok.sub hF hH h⟩
    · rw [List.getElem?_set_ne (Ne.symm hj)] at h'
      obtain ⟨u, h1, h2⟩ := x.ok.at_ j T h'
      exact ⟨u, h1, by rw [upM_ne hj]; exact T.mono K F _ u _ sF h2⟩
  · by_cases hj : j = i
    · subst hj; rw [upM_same] at h'; cases h'
    · rw [upM_ne hj] at h'
      have z := x.ok.own j b o h'
      refine ⟨z.1, ?_⟩
      rw [addM_out fun u hu => hj (x.ok.apart j i b o u h' hu)]
      exact z.2
  · by_cases hj : j = i
    · subst hj; rw [upM_same] at h1; cases h1
    · by_cases hk : k = i
      · subst hk; rw [upM_same] at h2; cases h2
      · rw [upM_ne hj] at h1; rw [upM_ne hk] at h2
        exact x.ok.apart j k b o o' h1 h2
  · rcases addM_cases (m := M i) b with ⟨u', z⟩ | z
    · exact x.mb i b u' z
    · rw [addM_out z] at h1; exact x.nb b u h1 h2
  · by_cases hj : j = i
    · subst hj; rw [upM_same] at h'; cases h'
    · rw [upM_ne hj] at h'; exact x.mb j b o h'
/-- one object changes, with it what a name owns -/
theorem PInv.change {i : Nat} {S S' : Slot} {v : V} {a : Addr} {o o' : HO} {m' : Mini} (x : PInv K B F0 ρ F σ H M) (hi : ρ[i]? = some (some S)) (hσ : σ[i]? = some (some v)) (ha : (a, o) ∈ M i) (hS : S'.R K F v m')
    (hm : ∀ b u, (b, u) ∈ m' → (upd H a o') b = some u ∧ F b = none ∧ B b = none ∧ ∀ (j : Nat) (u' : HO), j ≠ i → (b, u') ∉ M j) : PInv K B F0 (ρ.set i (some S')) F σ (upd H a o') (upM M i m') := by
  have hF : F a = none := (x.ok.own i a _ ha).2
  have hB : B a = none := x.mb i a _ ha
  refine ⟨⟨by rw [List.length_set]; exact x.ok.len, fun b u e => ?_, fun j T h => ?_, fun j b u h => ?_, fun j k b u u' h h' => ?_⟩, fun b u e => ?_, x.f0, x.nb, fun j b u h => ?_⟩
  · rw [upd_ne (ne_of_none e hF)]; exact x.ok.sub b u e
  · by_cases hj : j = i
    · subst hj
      have hl : j < ρ.length := (List.getElem?_eq_some_iff.mp hi).1
      rw [List.getElem?_set_self hl] at h
      cases h
      exact ⟨v, hσ, by rw [upM_same]; exact hS⟩
    · rw [List.getElem?_set_ne (Ne.symm hj)] at h
      obtain ⟨w, h1, h2⟩ := x.ok.at_ j T h
      exact ⟨w, h1, by rw [upM_ne hj]; exact h2⟩
  · by_cases hj : j = i
    · subst hj; rw [upM_same] at h; exact ⟨(hm b u h).1, (hm b u h).2.1⟩
    · rw [upM_ne hj] at h
      have hb : b ≠ a := fun z => by subst z; exact hj (x.ok.apart j i b _ _ h ha)
      rw [upd_ne hb]; exact x.ok.own j b u h
  · by_cases hj : j = i
    · by_cases hk : k = i
      · rw [hj, hk]
      · subst hj; rw [upM_same] at h; rw [upM_ne hk] at h'
        exact absurd h' ((hm b u h).2.2.2 k u' hk)
    · by_cases hk : k = i
      · subst hk; rw [upM_same] at h'; rw [upM_ne hj] at h
        exact absurd h ((hm b u' h').2.2.2 j u hj)
      · rw [upM_ne hj] at h; rw [upM_ne hk] at h'
        exact x.ok.apart j k b u u' h h'
  · rw [upd_ne (ne_of_none e hB)]; exact x.base b u e
  · by_cases hj : j = i
    · subst hj; rw [upM_same] at h; exact (hm b u h).2.2.1
    · rw [upM_ne hj] at h; exact x.mb j b u h
end

/-- an expression that makes a tree: what it owns is new -/
def FrT (X : Cx) (W : Wc) (ρ : Env) (e : Expr) (t : T) : Prop :=
  ∀ (pins : List (Addr × Obj)) (s : Shared) (σ : St) (F H : Hp) (M : Nat → Mini) (Q : VK), Inv X pins σ H s → EOk X.K ρ F σ H M →
    (∀ v F' H' m, Ext F H F' H' → OT X.K F' v t m → (∀ a o, (a, o) ∈ m → H' a = some o ∧ F' a = none ∧ H a = none) → Q v H') →
    wpAny (model X.prog X.w) X.A (eval e X.env) (EP X pins σ Q) X.xe s
def tFrT (X : Cx) (ρ : Env) (t : T) : TE := fun σ H Q => ∃ F M, EOk X.K ρ F σ H M ∧ (∀ v F' H' m, Ext F H F' H' → OT X.K F' v t m → (∀ a o, (a, o) ∈ m → H' a = some o ∧ F' a = none ∧ H a = none) → Q v H')
def FrTA (X : Cx) (W : Wc) (ρ : Env) (es : List Expr) (ts : List T) : Prop :=
  ∀ (pos : Pos) (pins : List (Addr × Obj)) (s : Shared) (σ : St) (F H : Hp) (M : Nat → Mini) (Q : List V → Hp → Prop), Inv X pins σ H s → EOk X.K ρ F σ H M →
    (∀ vs F' H' m, Ext F H F' H' → OTs X.K F' vs ts m → (∀ a o, (a, o) ∈ m → H' a = some o ∧ F' a = none ∧ H a = none) → Q vs H') →
    wpAny (model X.prog X.w) X.A (spliced (backTo pos (starEach es X.env))) (AP X pins σ Q) X.xe s
def tFrTA (X : Cx) (ρ : Env) (ts : List T) : TA := fun σ H Q => ∃ F M, EOk X.K ρ F σ H M ∧ (∀ vs F' H' m, Ext F H F' H' → OTs X.K F' vs ts m → (∀ a o, (a, o) ∈ m → H' a = some o ∧ F' a = none ∧ H a = none) → Q vs H')
section
variable {X : Cx} {W : Wc} {ρ : Env} {e a b : Expr} {es : List Expr} {pos p : Pos} {C : Ec → Addr} {k : Nat} {rest : List Stmt} {Φ : Out → Prop}
theorem FrT.pe {t : T} (h : FrT X W ρ e t) : PE X e (tFrT X ρ t) := ⟨fun pins s σ H Q I ⟨F, M, ok, h1⟩ => h pins s σ F H M Q I ok h1⟩
theorem FrTA.pa {ts : List T} (h : FrTA X W ρ es ts) : PA X es (tFrTA X ρ ts) := ⟨fun pos pins s σ H Q I ⟨F, M, ok, h1⟩ => h pos pins s σ F H M Q I ok h1⟩
theorem Ev.t {d : PyData} (h : Ev X W ρ e d) : FrT X W ρ e (.fz d) := fun pins s σ F H M Q I ok q => h pins s σ F H M Q I ok (fun d' hd v F' H' x dv => by cases hd; exact q v F' H' [] x (.fz dv) fun _ _ z => nomatch z) fun c hc => nomatch hc
theorem Fr.t {ds : List PyData} (h : Fr X W ρ e ds) : FrT X W ρ e (.lst none (ds.map T.fz)) := fun pins s σ F H M Q I ok q => h pins s σ F H M Q I ok fun a vs F' H' x n n' ha dv =>
  q _ F' H' [(a, .lst vs)] x (.lst (fun _ z => nomatch z) (OTs.ofDq dv) fun _ z => nomatch z) fun b o hm => by
    have z : (b, o) = (a, HO.lst vs) := by simpa using hm
    cases z
    exact ⟨ha, n', n⟩
theorem ta_nil : FrTA X W ρ [] [] := fun pos pins s σ F H M Q I ok h => pa_nil.run pos pins s σ H Q I (h _ F H [] (.refl ok.sub) .nil fun _ _ z => nomatch z)
theorem ta_cons {t : T} {ts : List T} (ha : FrT X W ρ e t) (hr : FrTA X W ρ es ts) (hs : starEach (e :: es) X.env = (false, eval e X.env) :: starEach es X.env := by rfl) : FrTA X W ρ (e :: es) (t :: ts) :=
  fun pos pins s σ F H M Q I ok h => (pa_cons ha.pe hr.pa hs).run pos pins s σ H Q I ⟨F, M, ok, fun v F1 H1 m1 x1 h1 q1 => ⟨F1, M, ok.ext x1, fun vs F2 H2 m2 x2 h2 q2 => by
    refine h (v :: vs) F2 H2 (m1 ++ m2) (x1.trans x2) (.cons (OT.mono x2.f _ _ _ h1) h2 fun b o o' z1 z2 => ?_) fun b o hm => ?_
    · have y := (q1 b o z1).1
      rw [(q2 b o' z2).2.2] at y; cases y
    · rcases List.mem_append.mp hm with z | z
      · obtain ⟨y1, y2, y3⟩ := q1 b o z
        refine ⟨x2.h _ _ y1, ?_, y3⟩
        cases q : F2 b with
        | none => rfl
        | some u =>
          have z := x2.new b u q y2
          rw [z] at y1; cases y1
      · obtain ⟨y1, y2, y3⟩ := q2 b o z
        exact ⟨y1, y2, x1.h.free y3⟩⟩⟩
theorem ot_keep {F F' H H' : Hp} {m : Mini} (x : Ext F H F' H') (q : ∀ a o, (a, o) ∈ m → H a = some o ∧ F a = none) : ∀ a o, (a, o) ∈ m → H' a = some o ∧ F' a = none := fun a o z => by
  obtain ⟨y1, y2⟩ := q a o z
  refine ⟨x.h _ _ y1, ?_⟩
  cases w : F' a with
  | none => rfl
  | some u =>
    have z := x.new a u w y2
    rw [z] at y1; cases y1
/-- a tuple, a list of trees -/
theorem t_tup {kk : Nat} {ts : List T} (ha : FrTA X W ρ es ts) (c : ts.length ≤ sizeLine := by exact PV.small (by simp)) : FrT X W ρ (.Tuple es kk pos) (.tup none ts) :=
  fun pins s σ F H M Q I ok h => (pe_tup ha.pa).run pins s σ H Q I ⟨F, M, ok, fun vs F1 H1 m x1 h1 q1 => ⟨by rw [h1.len]; exact c, fun l hl => by
    have x2 := Ext.beside (o := .tup vs) x1.sub hl
    refine h (.ref l) F1 _ ((l, .tup vs) :: m) (x1.trans x2) (.tup (fun _ z => nomatch z) h1 fun o z => ?_) fun b o hm => ?_
    · have y := (q1 l o z).1
      rw [hl] at y; cases y
    · rcases List.mem_cons.mp hm with z | z
      · cases z
        exact ⟨upd_same, x1.sub.free hl, x1.h.free hl⟩
      · obtain ⟨y1, y2, y3⟩ := q1 b o z
        exact ⟨x2.h _ _ y1, y2, y3⟩⟩⟩
theorem t_lst {ts : List T} (ha : FrTA X W ρ es ts) (c : ts.length ≤ sizeLine := by exact PV.small (by simp)) : FrT X W ρ (.List es pos) (.lst none ts) :=
  fun pins s σ F H M Q I ok h => (pe_lst ha.pa).run pins s σ H Q I ⟨F, M, ok, fun vs F1 H1 m x1 h1 q1 => ⟨by rw [h1.len]; exact c, fun l hl => by
    have x2 := Ext.beside (o := .lst vs) x1.sub hl
    refine h (.ref l) F1 _ ((l, .lst vs) :: m) (x1.trans x2) (.lst (fun _ z => nomatch z) h1 fun o z => ?_) fun b o hm => ?_
    · have y := (q1 l o z).1
      rw [hl] at y; cases y
    · rcases List.mem_cons.mp hm with z | z
      · cases z
        exact ⟨upd_same, x1.sub.free hl, x1.h.free hl⟩
      · obtain ⟨y1, y2, y3⟩ := q1 b o z
        exact ⟨x2.h _ _ y1, y2, y3⟩⟩⟩
/-- frozen at once -/
theorem FrT.ev {t : T} (h : FrT X W ρ e t) : Ev X W ρ e t.er := fun pins s σ F H M Q I ok q _ => h pins s σ F H M Q I ok fun v F' H' m x hv hm => by
  have n1 : ∀ a o, (a, o) ∈ m → F' a = none := fun a o z => (hm a o z).2.1
  have n2 : ∀ a o, (a, o) ∈ m → H' a = some o := fun a o z => (hm a o z).1
  refine q _ rfl v (addM F' H' m) H' ⟨x.f.trans (addM_ge n1), x.h, addM_sub x.sub, fun a o h1 h2 => ?_⟩ (addM_dq x.sub n1 n2 hv)
  rcases addM_cases (m := m) a with ⟨u, z⟩ | z
  · exact (hm a u z).2.2
  · rw [addM_out z] at h1; exact x.new a o h1 h2
/-- x = a tree -/
theorem sxs_setT (i : Nat) {x : Str} {pos' : Pos} {t : T} (he : FrT X W ρ e t) (k : Sxs X W rest (ρ.set i (some (tr t))) Φ) (hN : X.N.Nodup)
    (hi : X.N[i]? = some x := by rfl) (hx : Loc X.env.scope x := by first | exact Or.inl rfl | exact Or.inr rfl) (hs : swapsWith e (some (.Name x pos')) pos.line X.env = pure false := by rfl)
    (hf : X.fn x = true ∨ X.env.scope.names.lookup x = some .local := by first | exact .inl rfl | exact .inr rfl) :
    Sxs X W (.Assign [.Name x pos'] e pos :: rest) ρ Φ :=
  sxs_of (ps_set hN hi hx he.pe hs hf) fun σ F H M B F0 D ok q => ⟨F, M, ok.ok, fun v F' H' m x hv hm => by
    have y : PInv X.K B F0 (ρ.set i (some (tr t))) F' (σ.set i (some v)) H' (upM M i m) := (ok.ext x).set hv fun a o z => by
      obtain ⟨y1, y2, y3⟩ := hm a o z
      refine ⟨y1, y2, ok.base.free y3, fun j o' hj hm' => ?_⟩
      have w := (ok.ok.own j a o' hm').1
      rw [y3] at w; cases w
    exact ⟨_, Φ, F', _, B, F0, k, y, q⟩⟩
theorem sxs_freezeT {sts : List Stmt} (i : Nat) {t : T} (hi : ρ[i]? = some (some (tr t))) (h : Sxs X W sts (ρ.set i (some (fz t.er))) Φ) : Sxs X W sts ρ Φ := fun pins s σ F H M B F0 D I ok q => by
  obtain ⟨F', M', ok'⟩ := ok.freezeT hi
  exact h pins s σ F' H M' B F0 D I ok' q
/-- return of a tree -/
theorem sxs_retT {t : T} (he : FrT X W ρ e t) (k : Φ (.ret (tr t) ρ)) : Sxs X W (.Return (some e) pos :: rest) ρ Φ :=
  sxs_of (ps_ret he.pe) fun σ F H M B F0 D ok q => ⟨F, M, ok.ok, fun v F' H' m x hv hm => q _ k v F' σ H' _ ((ok.ext x).push hv fun a o z => by
    obtain ⟨y1, y2, y3⟩ := hm a o z
    refine ⟨y1, y2, ok.base.free y3, fun j o' hm' => ?_⟩
    have w := (ok.ok.own j a o' hm').1
    rw [y3] at w; cases w)⟩
/-- an owned list as a tree -/
theorem sxs_owT {sts : List Stmt} (i : Nat) {ds : List PyData} (hi : ρ[i]? = some (some (ow none ds))) (h : Sxs X W sts (ρ.set i (some (tr (.lst none (ds.map T.fz))))) Φ) : Sxs X W sts ρ Φ := fun pins s σ F H M B F0 D I ok q => by
  refine h pins s σ F H M B F0 D I ⟨⟨by rw [List.length_set]; exact ok.ok.len, ok.ok.sub, fun j T hj => ?_, ok.ok.own, ok.ok.apart⟩, ok.base, ok.f0, ok.nb, ok.mb⟩ q
  by_cases hji : j = i
  · subst hji
    have hl : j < ρ.length := (List.getElem?_eq_some_iff.mp hi).1
    rw [List.getElem?_set_self hl] at hj
    cases hj
    obtain ⟨v, hσ, a, vs, rfl, hM, _, dv⟩ := ok.ok.at_ j _ hi
    refine ⟨_, hσ, ?_⟩
    rw [hM]
    exact .lst (fun _ z => nomatch z) (OTs.ofDq dv) fun _ z => nomatch z
  · rw [List.getElem?_set_ne (Ne.symm hji)] at hj
    exact ok.ok.at_ j T hj
/-- a def that hands back a tree -/
theorem t_call {ι : Type} {n : Nat} {ins : ι → List Slot} {pre : ι → Prop} {r : ι → Except Ec Slot → Prop} {x : Str} {j : Nat} {t : T} (c : Ctx X C W k) (G : Callee X.prog X.w X.K X.mg X.base j x (spP X.K C n ins pre r)) (i : ι) (hp : pre i) (hr : ∀ o, r i o → o = .ok (tr t)) (ha : EvAS X W ρ (e :: es) (ins i)) (hj : j ≤ k := by decide) (hn : (ins i).length = n := by rfl)
    (hg : Gl X x := by rfl) (hdb : (x == ("__debug__" : Str)) = false := by decide) (he : starEach (e :: es) X.env = (false, eval e X.env) :: starEach es X.env := by rfl) (hpl : (backTo pos (starEach es X.env)).any (·.1) = false := by rfl) : FrT X W ρ (.Call (.Name x p) (e :: es) [] pos) t :=
  fun pins s σ F H M Q I ok h1 => call_any c G hj i hp ha hn hg hdb he hpl pins s σ F H M Q I ok (fun S hS v F' H' m x2 hv hm => by
    have e : S = tr t := Except.ok.inj (hr _ hS)
    subst e
    exact h1 v F' H' m x2 hv hm) fun c hc F' H' x2 => nomatch hr _ hc

/-! ### reading -/
/-- a name that owns a tree, read as it stands -/
theorem rv_tr (i : Nat) {x : Str} {pos : Pos} {t : T} (hd : ρ[i]? = some (some (tr t))) (hN : X.N[i]? = some x := by rfl) (hv : Vis X.env.scope x := by first | exact Or.inl rfl | exact Or.inr (Or.inl rfl) | exact Or.inr (Or.inr rfl))
    (h1 : (x == ("__debug__" : Str)) = false := by decide) (h2 : (x == ("__classdict__" : Str)) = false := by decide) : Rv X W ρ (.Name x pos) t.er :=
  fun pins s σ F H M Q I ok h => (pe_var hN hv h1 h2).run pins s σ H Q I (by
    obtain ⟨v, e, q⟩ := ok.at_ i _ hd
    exact ⟨v, e, h v F H (.refl ok.sub) (OT.dq ok.sub _ _ _ q fun a o z => (ok.own i a o z).1)⟩)
/-- a value without objects -/
def scalar : PyData → Bool
  | .none => true
  | .bool _ => true
  | .int _ => true
  | .str _ => true
  | _ => false
theorem dq_scalar {K : PySem.W.Frag} {H H' : Hp} {v : V} {d : PyData} (h : Dq K H v d) (s : scalar d = true) : Dq K H' v d := by
  cases h with
  | non => exact .non
  | bl b => exact .bl b
  | int i => exact .int i
  | str x => exact .str x
  | lst _ _ => cases s
  | tup _ _ => cases s
/-- what is read of an item that is no object -/
theorem ev_ixR {ds : List PyData} {i : Int} {d : PyData} (ha : Rv X W ρ a (.list ds)) (hb : Ev X W ρ b (.int i)) (e : atI ds i = some d) (sc : scalar d = true) (hs : PlainIx b := by exact fun _ _ => rfl) : Ev X W ρ (.Subscript a b pos) d :=
  ev1_of (pe_ix ix_list ha.pe hb.pe hs) fun σ F H M Q ok h => ⟨F, M, ok, fun x F1 H1 e1 dx => rd (ok.ext e1) fun y F2 H2 e2 dy => by
    obtain ⟨p, vs, rfl, h1, h2⟩ := dq_lst dx
    obtain ⟨v, h3, h4⟩ := atI_dq h2 e
    exact ⟨p, vs, i, v, rfl, dq_int dy, .inl (same_rd e2.h h1), h3, h v F2 H2 (e1.trans e2) (dq_scalar h4 sc)⟩⟩
theorem ev_ixRT {ds : List PyData} {i : Int} {d : PyData} (ha : Rv X W ρ a (.tuple ds)) (hb : Ev X W ρ b (.int i)) (e : atI ds i = some d) (sc : scalar d = true) (hs : PlainIx b := by exact fun _ _ => rfl) : Ev X W ρ (.Subscript a b pos) d :=
  ev1_of (pe_ix ix_tup ha.pe hb.pe hs) fun σ F H M Q ok h => ⟨F, M, ok, fun x F1 H1 e1 dx => rd (ok.ext e1) fun y F2 H2 e2 dy => by
    obtain ⟨p, vs, rfl, h1, h2⟩ := dq_tup dx
    obtain ⟨v, h3, h4⟩ := atI_dq h2 e
    exact ⟨p, vs, i, v, rfl, dq_int dy, same_seqT e2.h h1, h3, h v F2 H2 (e1.trans e2) (dq_scalar h4 sc)⟩⟩
/-- .. of one that is read on -/
theorem rv_ixL {ds : List PyData} {i : Int} {d : PyData} (ha : Rv X W ρ a (.list ds)) (hb : Ev X W ρ b (.int i)) (e : atI ds i = some d) (hs : PlainIx b := by exact fun _ _ => rfl) : Rv X W ρ (.Subscript a b pos) d :=
  fun pins s σ F H M Q I ok h => (pe_ix ix_list ha.pe hb.pe hs).run pins s σ H Q I ⟨F, M, ok, fun x F1 H1 e1 dx => rd (ok.ext e1) fun y F2 H2 e2 dy => by
    obtain ⟨p, vs, rfl, h1, h2⟩ := dq_lst dx
    obtain ⟨v, h3, h4⟩ := atI_dq h2 e
    exact ⟨p, vs, i, v, rfl, dq_int dy, .inl (same_rd e2.h h1), h3, h v F2 H2 (e1.trans e2) (dq_mono e2.h _ _ h4)⟩⟩
theorem rv_ixT {ds : List PyData} {i : Int} {d : PyData} (ha : Rv X W ρ a (.tuple ds)) (hb : Ev X W ρ b (.int i)) (e : atI ds i = some d) (hs : PlainIx b := by exact fun _ _ => rfl) : Rv X W ρ (.Subscript a b pos) d :=
  fun pins s σ F H M Q I ok h => (pe_ix ix_tup ha.pe hb.pe hs).run pins s σ H Q I ⟨F, M, ok, fun x F1 H1 e1 dx => rd (ok.ext e1) fun y F2 H2 e2 dy => by
    obtain ⟨p, vs, rfl, h1, h2⟩ := dq_tup dx
    obtain ⟨v, h3, h4⟩ := atI_dq h2 e
    exact ⟨p, vs, i, v, rfl, dq_int dy, same_seqT e2.h h1, h3, h v F2 H2 (e1.trans e2) (dq_mono e2.h _ _ h4)⟩⟩
theorem ev_lenR {ds : List PyData} (B : Blt X.mg) (ha : Rv X W ρ a (.list ds)) (hg : Gl X "len" := by rfl) (he : starEach (a :: []) X.env = (false, eval a X.env) :: starEach [] X.env := by rfl) : Ev X W ρ (.Call (.Name "len" p) [a] [] pos) (.int ds.length) :=
  ev1_of (pe_callB call_len_seq hg B.len PySem.boot_len (pa_cons ha.pe pa_nil he) (he := he)) fun σ F H M Q ok h => ⟨F, M, ok, fun x F1 H1 e1 dx => by
    obtain ⟨p, vs, rfl, h1, h2⟩ := dq_lst dx
    refine ⟨p, vs, rfl, .inl (.inl h1), ?_⟩
    rw [DqAll_len h2]
    exact h _ F1 H1 e1 (.int _)⟩
/-- a slice that is only read -/
theorem rv_slice {ds : List PyData} {lo hi : Option Expr} {l u : Option Int} {p2 : Pos} (ha : Rv X W ρ a (.list ds)) (hl : EvO X W ρ lo l) (hu : EvO X W ρ hi u) : Rv X W ρ (.Subscript a (.Slice lo hi none p2) pos) (.list (cutD ds l u)) :=
  fun pins s σ F H M Q I ok h => (pe_slice sl_list ha.pe hl.po hu.po).run pins s σ H Q I ⟨F, M, ok, fun x F1 H1 e1 dx => ⟨F1, M, ok.ext e1, fun F2 H2 e2 => ⟨F2, M, (ok.ext e1).ext e2, fun F3 H3 e3 => by
    obtain ⟨p, vs, rfl, h1, h2⟩ := dq_lst dx
    refine ⟨p, vs, rfl, .inl (same_rd (e2.h.trans e3.h) h1), fun q hq => ?_⟩
    have x := (e1.trans e2).trans e3
    have y := Ext.beside (o := .lst (cutV vs l u)) x.sub hq
    have e : DqAll X.K (upd H3 q (.lst (cutV vs l u))) (cutV vs l u) (cutD ds l u) := by
      have z := dqAll_mono ((e2.h.trans e3.h).trans y.h) _ _ h2
      have w : cutV vs l u = (vs.drop (HT.sIx ds.length 0 l)).take (HT.sIx ds.length ds.length u - HT.sIx ds.length 0 l) := by
        unfold cutV
        rw [DqAll_len h2]
      have z2 := DqAll_take (HT.sIx ds.length ds.length u - HT.sIx ds.length 0 l) (DqAll_drop (HT.sIx ds.length 0 l) z)
      rw [← w] at z2
      exact z2
    exact h _ F3 _ (x.trans y) (.lst (.inl upd_same) e)⟩⟩⟩
/-- a tuple, a list that is only read -/
theorem rv_tup {kk : Nat} {ds : List PyData} (ha : RvA X W ρ es ds) (c : ds.length ≤ sizeLine := by exact PV.small (by simp)) : Rv X W ρ (.Tuple es kk pos) (.tuple ds) :=
  fun pins s σ F H M Q I ok h => (pe_tup ha.pa).run pins s σ H Q I ⟨F, M, ok, fun vs F1 H1 x1 dvs => ⟨sz_of dvs c, fun l hl => by
    have y := Ext.beside (o := .tup vs) x1.sub hl
    exact h _ F1 _ (x1.trans y) (.tup upd_same (dqAll_mono y.h _ _ dvs))⟩⟩
/-- a call that hands back no object: its arguments may be anything that can be read -/
theorem ev_callS {ι : Type} {n : Nat} {ins : ι → List Slot} {pre : ι → Prop} {r : ι → Except Ec Slot → Prop} {x : Str} {j : Nat} {d : PyData} {ds : List PyData} (c : Ctx X C W k) (G : Callee X.prog X.w X.K X.mg X.base j x (spP X.K C n ins pre r)) (i : ι) (hp : pre i) (hr : ∀ o, r i o → o = .ok (fz d)) (hi : ins i = ds.map fz) (sc : scalar d = true) (ha : RvA X W ρ (e :: es) ds)
    (hj : j ≤ k := by decide) (hn : (ins i).length = n := by rfl)
    (hg : Gl X x := by rfl) (hdb : (x == ("__debug__" : Str)) = false := by decide) (he : starEach (e :: es) X.env = (false, eval e X.env) :: starEach es X.env := by rfl) (hpl : (backTo pos (starEach es X.env)).any (·.1) = false := by rfl) : Ev X W ρ (.Call (.Name x p) (e :: es) [] pos) d := by
  intro pins s σ F H M Q I ok h1 h2
  obtain ⟨f, fd, ps, hF, hm, hk, hb⟩ := G
  refine (pe_callS (E := WE (fun cls d σ H => ∃ c, cls = .ref (C c) ∧ d = none ∧ W c σ H)) hF (c.room.mono hj) hg hm hk hb (fun σ => passAt c.tk σ) ha.pa hdb he hpl).run pins s σ H Q I ?_
  refine ⟨F, M, ok, fun vs F1 H1 x1 dvs => ⟨i, H1, .refl _, ?_, ?_, hp, fun S hS v F' H' m x2 hv hm => ?_, fun c hc => ?_⟩⟩
  · rw [DqAll_len dvs, ← hn, hi, List.length_map]
  · rw [hi]
    have key : ∀ {vs : List V} {ds : List PyData}, DqAll X.K H1 vs ds → SlotsR X.K H1 vs (ds.map fz) := by
      intro vs ds h
      induction ds generalizing vs with
      | nil => cases h; exact .nil
      | cons d ds ih => cases h with | cons h t => exact .cons ⟨rfl, h⟩ (ih t)
    exact key dvs
  · have e : S = fz d := Except.ok.inj (hr _ hS)
    subst e
    exact h1 d rfl v F1 H' (x1.trans ⟨.refl _, x2.h, x1.sub.trans x2.h, fun a o z1 z2 => by rw [z1] at z2; cases z2⟩) (dq_scalar hv.2 sc)
  · exact nomatch hr _ hc

/-! ### parts of a tree that change -/
/-- e stands for the part π of what the name j owns -/
def Nd (X : Cx) (W : Wc) (ρ : Env) (e : Expr) (j : Nat) (π : List Nat) : Prop :=
  ∀ (pins : List (Addr × Obj)) (s : Shared) (σ : St) (F H : Hp) (M : Nat → Mini) (Q : VK), Inv X pins σ H s → EOk X.K ρ F σ H M →
    (∀ r v F' H', σ[j]? = some (some r) → Ext F H F' H' → NodeV H' r π v → Q v H') → wpAny (model X.prog X.w) X.A (eval e X.env) (EP X pins σ Q) X.xe s
def tNd (X : Cx) (ρ : Env) (j : Nat) (π : List Nat) : TE := fun σ H Q => ∃ F M, EOk X.K ρ F σ H M ∧ (∀ r v F' H', σ[j]? = some (some r) → Ext F H F' H' → NodeV H' r π v → Q v H')
theorem Nd.pe {j : Nat} {π : List Nat} (h : Nd X W ρ e j π) : PE X e (tNd X ρ j π) := ⟨fun pins s σ H Q I ⟨F, M, ok, h1⟩ => h pins s σ F H M Q I ok h1⟩
theorem nd_var (j : Nat) {x : Str} {pos : Pos} {t : T} (hd : ρ[j]? = some (some (tr t))) (hN : X.N[j]? = some x := by rfl) (hv : Vis X.env.scope x := by first | exact Or.inl rfl | exact Or.inr (Or.inl rfl) | exact Or.inr (Or.inr rfl))
    (h1 : (x == ("__debug__" : Str)) = false := by decide) (h2 : (x == ("__classdict__" : Str)) = false := by decide) : Nd X W ρ (.Name x pos) j [] :=
  fun pins s σ F H M Q I ok h => (pe_var hN hv h1 h2).run pins s σ H Q I (by
    obtain ⟨v, e, q⟩ := ok.at_ j _ hd
    exact ⟨v, e, h v v F H e (.refl ok.sub) rfl⟩)
/-- a name that holds what stands at l -/
theorem nd_adr (i j : Nat) {x : Str} {pos : Pos} {t : T} {l : Addr} {π : List Nat} {ts : List T} (hd : ρ[i]? = some (some (adr l))) (hj : ρ[j]? = some (some (tr t))) (hπ : t.at? π = some (.lst (some l) ts) ∨ t.at? π = some (.tup (some l) ts)) (hN : X.N[i]? = some x := by rfl) (hv : Vis X.env.scope x := by first | exact Or.inl rfl | exact Or.inr (Or.inl rfl) | exact Or.inr (Or.inr rfl))
    (h1 : (x == ("__debug__" : Str)) = false := by decide) (h2 : (x == ("__classdict__" : Str)) = false := by decide) : Nd X W ρ (.Name x pos) j π :=
  fun pins s σ F H M Q I ok h => (pe_var hN hv h1 h2).run pins s σ H Q I (by
    obtain ⟨v, e, _, ev⟩ := ok.at_ i _ hd
    obtain ⟨r, er, q⟩ := ok.at_ j _ hj
    subst ev
    refine ⟨_, e, h r _ F H er (.refl ok.sub) ?_⟩
    rcases hπ with hπ | hπ
    · obtain ⟨w, m1, n, o1, _⟩ := OT.get q (fun a o z => (ok.own j a o z).1) hπ
      cases o1 with | lst z _ _ => rw [z l rfl] at n; exact n
    · obtain ⟨w, m1, n, o1, _⟩ := OT.get q (fun a o z => (ok.own j a o z).1) hπ
      cases o1 with | tup z _ _ => rw [z l rfl] at n; exact n)
theorem nd_ix {j n : Nat} {π : List Nat} {t : T} {i : Int} {l : Option Addr} {ts : List T} (ha : Nd X W ρ a j π) (hb : Ev X W ρ b (.int i)) (hj : ρ[j]? = some (some (tr t))) (hπ : t.at? π = some (.lst l ts)) (hi : ixN ts.length i = some n) (hs : PlainIx b := by exact fun _ _ => rfl) : Nd X W ρ (.Subscript a b pos) j (π ++ [n]) :=
  fun pins s σ F H M Q I ok h => (pe_ix ix_list ha.pe hb.pe hs).run pins s σ H Q I ⟨F, M, ok, fun r v F1 H1 er e1 nv => rd (ok.ext e1) fun y F2 H2 e2 dy => by
    obtain ⟨r', er', q⟩ := ok.at_ j _ hj
    rw [er] at er'; cases er'
    obtain ⟨w, m1, n1, o1, sub⟩ := OT.get q (fun a o z => (ok.own j a o z).1) hπ
    have ev := NodeV.inj (n1.same e1.h) nv
    subst ev
    cases o1 with
    | @lst a' _ vs _ m2 z1 z2 z3 =>
      have hH : H a' = some (.lst vs) := (ok.own j _ _ (sub _ List.mem_cons_self)).1
      have hl : n < ts.length := by
        unfold ixN at hi
        split at hi
        · split at hi
          · cases hi; omega
          · cases hi
        · split at hi
          · cases hi; omega
          · cases hi
      obtain ⟨w, hv⟩ : ∃ w, vs[n]? = some w := ⟨_, List.getElem?_eq_getElem (by rw [z2.len]; exact hl)⟩
      refine ⟨a', vs, i, _, rfl, dq_int dy, .of (e2.h _ _ (e1.h _ _ hH)), ?_, h r _ F2 H2 er (e1.trans e2) (NodeV.snoc (nv.same e2.h) rfl (.inl (e2.h _ _ (e1.h _ _ hH))) hv)⟩
      unfold atI
      rw [z2.len, hi]
      exact hv⟩
theorem nd_ixT {j n : Nat} {π : List Nat} {t : T} {i : Int} {l : Option Addr} {ts : List T} (ha : Nd X W ρ a j π) (hb : Ev X W ρ b (.int i)) (hj : ρ[j]? = some (some (tr t))) (hπ : t.at? π = some (.tup l ts)) (hi : ixN ts.length i = some n) (hs : PlainIx b := by exact fun _ _ => rfl) : Nd X W ρ (.Subscript a b pos) j (π ++ [n]) :=
  fun pins s σ F H M Q I ok h => (pe_ix ix_tup ha.pe hb.pe hs).run pins s σ H Q I ⟨F, M, ok, fun r v F1 H1 er e1 nv => rd (ok.ext e1) fun y F2 H2 e2 dy => by
    obtain ⟨r', er', q⟩ := ok.at_ j _ hj
    rw [er] at er'; cases er'
    obtain ⟨w, m1, n1, o1, sub⟩ := OT.get q (fun a o z => (ok.own j a o z).1) hπ
    have ev := NodeV.inj (n1.same e1.h) nv
    subst ev
    cases o1 with
    | @tup a' _ vs _ m2 z1 z2 z3 =>
      have hH : H a' = some (.tup vs) := (ok.own j _ _ (sub _ List.mem_cons_self)).1
      have hl : n < ts.length := by
        unfold ixN at hi
        split at hi
        · split at hi
          · cases hi; omega
          · cases hi
        · split at hi
          · cases hi; omega
          · cases hi
      obtain ⟨w, hv⟩ : ∃ w, vs[n]? = some w := ⟨_, List.getElem?_eq_getElem (by rw [z2.len]; exact hl)⟩
      refine ⟨a', vs, i, _, rfl, dq_int dy, .of (e2.h _ _ (e1.h _ _ hH)), ?_, h r _ F2 H2 er (e1.trans e2) (NodeV.snoc (nv.same e2.h) rfl (.inr (e2.h _ _ (e1.h _ _ hH))) hv)⟩
      unfold atI
      rw [z2.len, hi]
      exact hv⟩
/-- what can be read there -/
theorem Nd.rv {j : Nat} {π : List Nat} {t u : T} (h : Nd X W ρ e j π) (hj : ρ[j]? = some (some (tr t))) (hπ : t.at? π = some u) : Rv X W ρ e u.er := fun pins s σ F H M Q I ok q => h pins s σ F H M Q I ok fun r v F' H' er x nv => by
  obtain ⟨r', er', z⟩ := ok.at_ j _ hj
  rw [er] at er'; cases er'
  obtain ⟨w, m1, n1, o1, sub⟩ := OT.get z (fun a o z => (ok.own j a o z).1) hπ
  have ev := NodeV.inj (n1.same x.h) nv
  subst ev
  exact q _ F' H' x (OT.dq (ok.ext x).sub _ _ _ (OT.mono x.f _ _ _ o1) fun a o z => x.h _ _ (ok.own j a o (sub _ z)).1)
/-- frozen data there -/
theorem Nd.ev {j : Nat} {π : List Nat} {t : T} {d : PyData} (h : Nd X W ρ e j π) (hj : ρ[j]? = some (some (tr t))) (hπ : t.at? π = some (.fz d)) : Ev X W ρ e d := fun pins s σ F H M Q I ok q _ => h pins s σ F H M Q I ok fun r v F' H' er x nv => by
  obtain ⟨r', er', z⟩ := ok.at_ j _ hj
  rw [er] at er'; cases er'
  obtain ⟨w, m1, n1, o1, sub⟩ := OT.get z (fun a o z => (ok.own j a o z).1) hπ
  have ev := NodeV.inj (n1.same x.h) nv
  subst ev
  cases o1 with | fz o1 => exact q d rfl _ F' H' x (dq_mono x.f _ _ o1)
/-- the change itself: a list's values in a tree are others -/
theorem PInv.mutT {K : PySem.W.Frag} {B F0 F H F' H' : Hp} {σ : St} {M : Nat → Mini} {j : Nat} {π : List Nat} {t : T} {l : Option Addr} {ts : List T} {r v : V} (ok : PInv K B F0 ρ F σ H M) (hj : ρ[j]? = some (some (tr t))) (hπ : t.at? π = some (.lst l ts)) (er : σ[j]? = some (some r)) (x : Ext F H F' H') (nv : NodeV H' r π v) :
    ∃ a vs m1, v = .ref a ∧ H' a = some (.lst vs) ∧ OTs K F' vs ts m1 ∧ (∀ b o, (b, o) ∈ m1 → H b = some o) ∧ (∀ q, l = some q → a = q) ∧ ∀ (l' : Option Addr) (vs' : List V) (ts' : List T) (m2 : Mini), (∀ q, l' = some q → a = q) → OTs K F' vs' ts' m2 → (∀ b o, (b, o) ∈ m2 → (b, o) ∈ m1 ∨ (H' b = some o ∧ F' b = none ∧ H b = none)) →
      ∃ M', PInv K B F0 (ρ.set j (some (tr (t.put π (.lst l' ts'))))) F' σ (upd H' a (.lst vs')) M' := by
  obtain ⟨r', er', z⟩ := ok.ok.at_ j _ hj
  rw [er] at er'; cases er'
  have hm : ∀ a o, (a, o) ∈ M j → H a = some o := fun a o z => (ok.ok.own j a o z).1
  have z' : OT K F' r t (M j) := OT.mono x.f _ _ _ z
  obtain ⟨a, vs, m1, k1, k2, k3, k4, k5, k6, g7⟩ := OT.mut z' hπ
  have ev := NodeV.inj ((k6 H hm).same x.h) nv
  subst ev
  refine ⟨a, vs, m1, rfl, x.h _ _ (hm _ _ k1), k3, fun b o z => hm b o (k4 _ z), k2, fun l' vs' ts' m2 hl' o2 q2 => ?_⟩
  have ok' := ok.ext x
  have new : ∀ b o, (b, o) ∈ m2 → b ≠ a ∧ ((b, o) ∈ m1 ∨ ∀ o', (b, o') ∉ M j) := fun b o hb => by
    rcases q2 b o hb with y | ⟨y1, y2, y3⟩
    · exact ⟨fun e => by subst e; exact k5 _ y, .inl y⟩
    · refine ⟨fun e => ?_, .inr fun o' hz => ?_⟩
      · subst e
        have w := hm _ _ k1
        rw [y3] at w; cases w
      · have w := hm _ _ hz
        rw [y3] at w; cases w
  obtain ⟨m', s1, s2⟩ := g7 l' vs' ts' m2 hl' o2 new
  refine ⟨_, ok'.change hj er k1 s1 fun b u hb => ?_⟩
  rcases s2 b u hb with ⟨y1, y2⟩ | ⟨rfl, rfl⟩ | y
  · obtain ⟨w1, w2⟩ := ok'.ok.own j b u y2
    exact ⟨by rw [upd_ne y1]; exact w1, w2, ok'.mb j b u y2, fun i u' hi hz => hi (ok'.ok.apart i j b u' u hz y2)⟩
  · exact ⟨upd_same, (ok'.ok.own j _ _ k1).2, ok'.mb j _ _ k1, fun i u' hi hz => hi (ok'.ok.apart i j _ u' _ hz k1)⟩
  · have nb := (new b u y).1
    rcases q2 b u y with y' | ⟨y1, y2, y3⟩
    · have y'' := k4 _ y'
      obtain ⟨w1, w2⟩ := ok'.ok.own j b u y''
      exact ⟨by rw [upd_ne nb]; exact w1, w2, ok'.mb j b u y'', fun i u' hi hz => hi (ok'.ok.apart i j b u' u hz y'')⟩
    · refine ⟨by rw [upd_ne nb]; exact y1, y2, ok.base.free y3, fun i u' hi hz => ?_⟩
      have w := (ok.ok.own i b u' hz).1
      rw [y3] at w; cases w
end
end PV

/-! The pure-value layer: statements that change trees; comprehensions of trees. -/
namespace PV
open PySem PySem.Spec PyProof.Rows L2
def rExtendR : V → List V → Hp → VK → Prop := fun x vs H Q => ∃ l b xs zs, x = .ref l ∧ vs = [.ref b] ∧ H l = some (.lst xs) ∧ Rd H b (.lst zs) ∧ xs.length + zs.length ≤ sizeLine ∧ Q .non (upd H l (.lst (xs ++ zs)))
theorem mt_extendR {X : Cx} : MtM X "list.extend" rExtendR := by
  intro pins s σ H x vs v us Q I rx rv h
  obtain ⟨l, b, xs, zs, rfl, rfl, hH, hB, hz, q⟩ := h
  cases rx
  obtain ⟨u, rfl, ru⟩ := rv.one
  cases ru
  obtain ⟨z, its, n, r, hl, e⟩ := I.lstM hH
  obtain ⟨its2, n2, r2, hl2, e2, z2⟩ := rd_obj I hB
  have hsz : its.toArray.size + its2.toArray.size ≤ sizeLine := by rw [List.size_toArray, List.size_toArray]; omega
  have hlong : ¬ (!its.toArray.isEmpty && Builtin.List.listTooLong (its.toArray.size + its2.toArray.size)) = true := by
    rw [notLongL hsz, Bool.and_false]
    exact Bool.false_ne_true
  refine call_meets F.slot_list_extend ⟨_, e, rfl⟩ F.entry_list_extend (F.args_list_extend_2 _ _)
    (AutoSeq1.list_extend_list_list_0 l its.toArray n b its2.toArray n2 hlong (by rw [List.size_toArray]; omega) (by omega)) ⟨e, e2, ?_⟩
  refine ⟨.non, _, I.lset (its' := its ++ its2) hH e (by simp) (r.append r2) ?_, rfl, q⟩
  rw [List.length_append]
  omega
section
variable {X : Cx} {W : Wc} {ρ : Env} {e a b d : Expr} {es : List Expr} {pos p : Pos} {C : Ec → Addr} {k : Nat} {rest : List Stmt} {Φ : Out → Prop} {π : List Nat} {t : T} {l : Option Addr} {ts : List T}
/-- e.append(d), e a part of a tree -/
theorem sxs_appendN (j : Nat) {pa : Pos} {u : T} (hj : ρ[j]? = some (some (tr t))) (hn : Nd X W ρ e j π) (hπ : t.at? π = some (.lst l ts)) (hd : FrT X W ρ d u) (c : ts.length < sizeLine) (k : Sxs X W rest (ρ.set j (some (tr (t.put π (.lst l (ts ++ [u])))))) Φ)
    (hp : ∀ t u, PE X e t → PE X d u → PE X (.Call (.Attribute e "append" pa) [d] [] p) (tBM X.K "list" rAppend t (tCons u tNil)) := by exact fun t u h h' => pe_bm PySem.F.plainAttrs_list PySem.F.slot_list_append PySem.F.type_list_append mt_append h (pa_cons h' pa_nil))
    (hs : swapsWith (.Call (.Attribute e "append" pa) [d] [] p) none pos.line X.env = pure false := by rfl) : Sxs X W (.Expr (.Call (.Attribute e "append" pa) [d] [] p) pos :: rest) ρ Φ :=
  sxs_of (ps_expr (hp _ _ hn.pe hd.pe) hs) fun σ F H M B F0 D ok q => ⟨F, M, ok.ok, fun r v F1 H1 er x1 nv => by
    obtain ⟨a, vs, m1, rfl, ha, o1, _, _, _⟩ := ok.mutT hj hπ er x1 nv
    refine ⟨ty_lst ha, F1, M, (ok.ext x1).ok, fun w F2 H2 m x2 hw hm => ?_⟩
    obtain ⟨a', vs', m1', e1, ha2, o2, hm1, hl, go⟩ := ok.mutT hj hπ er (x1.trans x2) (nv.same x2.h)
    cases e1
    obtain ⟨M', ok'⟩ := go l (vs' ++ [w]) (ts ++ [u]) (m1' ++ m) hl (OTs.app o2 (OTs.one hw) fun b o o' z1 z2 => by
      have y := x1.h _ _ (hm1 b o z1)
      rw [(hm b o' z2).2.2] at y; cases y) fun b o hb => by
      rcases List.mem_append.mp hb with z | z
      · exact .inl z
      · exact .inr ⟨(hm b o z).1, (hm b o z).2.1, x1.h.free (hm b o z).2.2⟩
    exact ⟨a, vs', w, rfl, rfl, ha2, by rw [o2.len]; exact c, _, Φ, F2, M', B, F0, k, ok', q⟩⟩
/-- e.extend(d) -/
theorem sxs_extendN (j : Nat) {pa : Pos} {ds : List PyData} (hj : ρ[j]? = some (some (tr t))) (hn : Nd X W ρ e j π) (hπ : t.at? π = some (.lst l ts)) (hd : Bv X W ρ d ds) (c : ts.length + ds.length ≤ sizeLine) (k : Sxs X W rest (ρ.set j (some (tr (t.put π (.lst l (ts ++ ds.map T.fz)))))) Φ)
    (hp : ∀ t u, PE X e t → PE X d u → PE X (.Call (.Attribute e "extend" pa) [d] [] p) (tBM X.K "list" rExtendR t (tCons u tNil)) := by exact fun t u h h' => pe_bm PySem.F.plainAttrs_list PySem.F.slot_list_extend PySem.F.type_list_extend mt_extendR h (pa_cons h' pa_nil))
    (hs : swapsWith (.Call (.Attribute e "extend" pa) [d] [] p) none pos.line X.env = pure false := by rfl) : Sxs X W (.Expr (.Call (.Attribute e "extend" pa) [d] [] p) pos :: rest) ρ Φ :=
  sxs_of (ps_expr (hp _ _ hn.pe hd.pe) hs) fun σ F H M B F0 D ok q => ⟨F, M, ok.ok, fun r v F1 H1 er x1 nv => by
    obtain ⟨a, vs, m1, rfl, ha, o1, _, _, _⟩ := ok.mutT hj hπ er x1 nv
    refine ⟨ty_lst ha, F1, M, (ok.ext x1).ok, fun w F2 H2 x2 hw => ?_⟩
    obtain ⟨a', vs', m1', e1, ha2, o2, hm1, hl, go⟩ := ok.mutT hj hπ er (x1.trans x2) (nv.same x2.h)
    cases e1
    obtain ⟨q', ws, rfl, h3, h4⟩ := hw
    obtain ⟨M', ok'⟩ := go l (vs' ++ ws) (ts ++ ds.map T.fz) (m1' ++ []) hl (OTs.app o2 (OTs.ofDq h4) fun _ _ _ _ z => nomatch z) fun b o hb => .inl (by simpa using hb)
    exact ⟨a, q', vs', ws, rfl, rfl, ha2, h3, by rw [o2.len, DqAll_len h4]; exact c, _, Φ, F2, M', B, F0, k, ok', q⟩⟩
/-- e.clear() -/
theorem sxs_clearN (j : Nat) {pa : Pos} (hj : ρ[j]? = some (some (tr t))) (hn : Nd X W ρ e j π) (hπ : t.at? π = some (.lst l ts)) (k : Sxs X W rest (ρ.set j (some (tr (t.put π (.lst l []))))) Φ)
    (hp : ∀ t, PE X e t → PE X (.Call (.Attribute e "clear" pa) [] [] p) (tBM0 X.K "list" rClear t) := by exact fun t h => pe_bm0 PySem.F.plainAttrs_list PySem.F.slot_list_clear PySem.F.type_list_clear mt_clear h)
    (hs : swapsWith (.Call (.Attribute e "clear" pa) [] [] p) none pos.line X.env = pure false := by rfl) : Sxs X W (.Expr (.Call (.Attribute e "clear" pa) [] [] p) pos :: rest) ρ Φ :=
  sxs_of (ps_expr (hp _ hn.pe) hs) fun σ F H M B F0 D ok q => ⟨F, M, ok.ok, fun r v F1 H1 er x1 nv => by
    obtain ⟨a, vs, m1, rfl, ha, o1, hm1, hl, go⟩ := ok.mutT hj hπ er x1 nv
    obtain ⟨M', ok'⟩ := go l [] [] [] hl .nil fun _ _ z => nomatch z
    exact ⟨ty_lst ha, a, vs, rfl, rfl, ha, _, Φ, F1, M', B, F0, k, ok', q⟩⟩
theorem OTs_set {K : PySem.W.Frag} {F : Hp} {vs : List V} {m mu : Mini} {n : Nat} {w : V} {u : T} (h : OTs K F vs ts m) (hn : n < ts.length) (hu : OT K F w u mu) (hq : ∀ b o, (b, o) ∈ mu → ∀ o', (b, o') ∉ m) : ∃ m', OTs K F (vs.set n w) (ts.set n u) m' ∧ ∀ b o, (b, o) ∈ m' → (b, o) ∈ m ∨ (b, o) ∈ mu := by
  obtain ⟨v, m0, g1, g2, g3, g4⟩ := h.at (List.getElem?_eq_getElem hn)
  obtain ⟨m', s1, s2⟩ := g4 w u mu hu fun b o z => .inr (hq b o z)
  exact ⟨m', s1, fun b o z => (s2 b o z).imp And.left id⟩
/-- e[b] = d -/
theorem sxs_setItemN (j : Nat) {pb : Pos} {u : T} {i : Int} {n : Nat} (hj : ρ[j]? = some (some (tr t))) (hn : Nd X W ρ e j π) (hπ : t.at? π = some (.lst l ts)) (hd : FrT X W ρ d u) (hb : Ev X W ρ b (.int i)) (hi : ixN ts.length i = some n) (k : Sxs X W rest (ρ.set j (some (tr (t.put π (.lst l (ts.set n u)))))) Φ)
    (hp : ∀ t u w, PE X e t → PE X d u → PE X b w → PS X (.Assign [.Subscript e b pb] d pos) (tAsg u (gSub t w rSetL)) := by exact fun t u w h h' h'' => ps_asg h' (pg_sub h h'' set_list)) :
    Sxs X W (.Assign [.Subscript e b pb] d pos :: rest) ρ Φ :=
  sxs_of (hp _ _ _ hn.pe hd.pe hb.pe) fun σ F H M B F0 D ok q => ⟨F, M, ok.ok, fun w F1 H1 m x1 hw hm => ⟨F1, M, (ok.ext x1).ok, fun r v F2 H2 er x2 nv => rd ((ok.ext x1).ext x2).ok fun y F3 H3 x3 dy => by
    have x := x2.trans x3
    obtain ⟨a, vs, m1, rfl, ha, o1, hm1, hl, go⟩ := ok.mutT hj hπ er (x1.trans x) (nv.same x3.h)
    have hn' : n < ts.length := by
      unfold ixN at hi
      split at hi
      · split at hi
        · cases hi; omega
        · cases hi
      · split at hi
        · cases hi; omega
        · cases hi
    have hm3 := ot_keep x fun a o z => ⟨(hm a o z).1, (hm a o z).2.1⟩
    obtain ⟨m', s1, s2⟩ := OTs_set o1 hn' (OT.mono x.f _ _ _ hw) fun b o z o' z' => by
      have y := hm1 b o' z'
      rw [(hm b o z).2.2] at y; cases y
    obtain ⟨M', ok'⟩ := go l (vs.set n w) (ts.set n u) m' hl s1 fun b o hb => by
      rcases s2 b o hb with z | z
      · exact .inl z
      · exact .inr ⟨(hm3 b o z).1, (hm3 b o z).2, (hm b o z).2.2⟩
    exact ⟨a, vs, i, n, rfl, dq_int dy, ha, by rw [o1.len]; exact hi, _, Φ, F3, M', B, F0, k, ok', q⟩⟩⟩
/-- x = e, e a list within a tree: x holds where it stands -/
theorem sxs_alias (i j : Nat) {x : Str} {pos' : Pos} (hij : i ≠ j) (hj : ρ[j]? = some (some (tr t))) (hn : Nd X W ρ e j π) (hπ : t.at? π = some (.lst l ts)) (k : ∀ q : Addr, Sxs X W rest ((ρ.set j (some (tr (t.put π (.lst (some q) ts))))).set i (some (adr q))) Φ) (hN : X.N.Nodup)
    (hi : X.N[i]? = some x := by rfl) (hx : Loc X.env.scope x := by first | exact Or.inl rfl | exact Or.inr rfl) (hs : swapsWith e (some (.Name x pos')) pos.line X.env = pure false := by rfl)
    (hf : X.fn x = true ∨ X.env.scope.names.lookup x = some .local := by first | exact .inl rfl | exact .inr rfl) : Sxs X W (.Assign [.Name x pos'] e pos :: rest) ρ Φ :=
  sxs_of (ps_set hN hi hx hn.pe hs hf) fun σ F H M B F0 D ok q => ⟨F, M, ok.ok, fun r v F1 H1 er x1 nv => by
    obtain ⟨a, vs, m1, rfl, ha, o1, hm1, hl, go⟩ := ok.mutT hj hπ er x1 nv
    obtain ⟨M', ok'⟩ := go (some a) vs ts m1 (fun q z => Option.some.inj z) o1 fun b o hb => .inl hb
    have e : upd H1 a (.lst vs) = H1 := by
      funext b
      by_cases hb : b = a
      · subst hb; rw [upd_same, ha]
      · rw [upd_ne hb]
    rw [e] at ok'
    have ok2 : PInv X.K B F0 ((ρ.set j (some (tr (t.put π (.lst (some a) ts))))).set i (some (adr a))) F1 (σ.set i (some (.ref a))) H1 (upM M' i []) := ok'.set ⟨rfl, rfl⟩ fun _ _ z => nomatch z
    exact ⟨_, Φ, F1, _, B, F0, k a, ok2, q⟩⟩
end

/-! ### comprehensions of trees -/
section
variable {X : Cx} {W : Wc} {ρ : Env} {e a b elt tg iter : Expr} {es : List Expr} {pos p : Pos} {C : Ec → Addr} {k : Nat} {rest : List Stmt} {Φ : Out → Prop} {scope : Scope}
def FrTB (X : Cx) (scope : Scope) (ρ : Env) (e : Expr) (t : T) : Prop := ∀ (s : Shared) (H : Hp) (Cc : Addr) (cl : List (Str × Addr)) (fp : List Addr), FrT (bl X scope s H Cc cl fp) W0 ρ e t
def tFrTB (X : Cx) (scope : Scope) (e : Expr) : TE := fun σ H Q => ∃ ρ t F M, FrTB X scope ρ e t ∧ EOk X.K ρ F σ H M ∧ ∀ v F' H' m, Ext F H F' H' → OT X.K F' v t m → (∀ a o, (a, o) ∈ m → H' a = some o ∧ F' a = none ∧ H a = none) → Q v H'
theorem pe_FrTB (s : Shared) (H : Hp) (Cc : Addr) (cl : List (Str × Addr)) (fp : List Addr) : PE (bl X scope s H Cc cl fp) e (tFrTB X scope e) :=
  ⟨fun pins s1 σ H1 Q I ⟨ρ, t, F, M, h, ok, q⟩ => h s H Cc cl fp pins s1 σ F H1 M Q I ok q⟩
theorem lc_readT {t : Bool} {is vs : List Nat} {ds : List PyData} {ts : List T} {wi : TI} {σ : St} {F H : Hp} {M : Nat → Mini} {Q : VK} (ok : EOk X.K ρ F σ H M)
    (qi : ∀ (σ : St) (F H : Hp) (M : Nat → Mini) (R : It → Hp → Prop), EOk X.K ρ F σ H M → (∀ J F' H', Ext F H F' H' → Walks X.K J F' ds → R J H') → wi σ H R) (hin : ∀ i ∈ is, i ∈ vs) (hz : ds.length ≤ sizeLine) (hk : ts.length = ds.length)
    (he : ∀ (i : Nat) (d : PyData) (u : T), ds[i]? = some d → ts[i]? = some u → tgFit t is d ∧ FrTB X scope (setAll (wipeE ρ vs) is (tgItems t d)) elt u)
    (h : ∀ v F' H' m, Ext F H F' H' → OT X.K F' v (.lst none ts) m → (∀ a o, (a, o) ∈ m → H' a = some o ∧ F' a = none ∧ H a = none) → Q v H') : tLc wi (gOf X.K t is) tYes (tFrTB X scope elt) vs σ H Q := by
  refine qi σ F H M _ ok fun J F1 H1 x1 wk => ?_
  intro D hD
  have nF1 : F1 D = none := x1.sub.free hD
  refine ⟨fun i m H' => m = ds.length - i ∧ i ≤ ds.length ∧ ∃ F' ws mm, Ext F1 H1 F' H' ∧ F' D = none ∧ H' D = some (.lst ws) ∧ ws.length ≤ i ∧ OTs X.K F' ws (ts.take i) mm ∧ (∀ a o, (a, o) ∈ mm → H' a = some o ∧ F' a = none ∧ H1 a = none ∧ a ≠ D),
    ⟨_, rfl, Nat.zero_le _, F1, [], [], .beside x1.sub hD, nF1, upd_same, Nat.le_refl _, .nil, fun _ _ z => nomatch z⟩, ?_⟩
  rintro i m H2 ⟨rfl, hle, F2, ws, mm, x2, n2, h2, hw, dws, hmm⟩
  by_cases hlt : i < ds.length
  · refine .inr ⟨wk.go i F2 H2 x2.f x2.sub hlt, fun H' => i + 1 ≤ ds.length ∧ ∃ F' ws mm, Ext F1 H1 F' H' ∧ F' D = none ∧ H' D = some (.lst ws) ∧ ws.length ≤ i + 1 ∧ OTs X.K F' ws (ts.take (i + 1)) mm ∧ (∀ a o, (a, o) ∈ mm → H' a = some o ∧ F' a = none ∧ H1 a = none ∧ a ≠ D), fun H' ⟨a1, a2⟩ => ⟨ds.length - (i + 1), by omega, rfl, a1, a2⟩, fun x H3 y => ?_⟩
    obtain ⟨F3, d, x3, hd, dv⟩ := wk.yld i F2 H2 x H3 x2.f x2.sub hlt y
    obtain ⟨u, hu⟩ : ∃ u, ts[i]? = some u := ⟨ts[i], List.getElem?_eq_getElem (by omega)⟩
    obtain ⟨fit, hx⟩ := he i d u hd hu
    have tk : ts.take (i + 1) = ts.take i ++ [u] := by
      rw [List.take_add_one, hu]
      rfl
    refine gOf_ok x3.sub dv fit fun xs dxs => ⟨by rw [wipe_setAllV hin, wipe_wipe], ?_⟩
    obtain ⟨M4, ok4⟩ := EOk.setAll (is := is) ((((ok.ext x1).wipe vs).ext x2).ext x3) dxs
    show tFrTB X scope elt (setAllV (L2.wipe σ vs) is xs) H3 _
    refine ⟨_, u, F3, M4, hx, ok4, fun v F5 H5 mv x5 dz qz => ?_⟩
    have x35 := x3.trans x5
    have h5 : H5 D = some (.lst ws) := x35.h _ _ h2
    have n5 : F5 D = none := by
      cases q : F5 D with
      | none => rfl
      | some u =>
        have z := x35.new D u q n2
        rw [z] at h2; cases h2
    have x6 := x2.trans x35
    have hmm5 := ot_keep x35 fun a o z => ⟨(hmm a o z).1, (hmm a o z).2.1⟩
    refine ⟨ws, h5, by omega, hlt, F5, ws ++ [v], mm ++ mv, ⟨x6.f, fun b u e => ?_, fun b u e => ?_, x6.new⟩, n5, upd_same, by rw [List.length_append]; simpa using hw, ?_, fun b o hb => ?_⟩
    · rw [upd_ne (ne_of_none e hD)]; exact x6.h b u e
    · rw [upd_ne (ne_of_none e n5)]; exact x6.sub b u e
    · rw [tk]
      exact OTs.app (OTs.mono x35.f _ _ _ dws) (OTs.one dz) fun b o o' z1 z2 => by
        have y := x3.h _ _ (hmm b o z1).1
        rw [(qz b o' z2).2.2] at y; cases y
    · rcases List.mem_append.mp hb with z | z
      · obtain ⟨y1, y2⟩ := hmm5 b o z
        obtain ⟨_, _, y3, y4⟩ := hmm b o z
        exact ⟨by rw [upd_ne y4]; exact y1, y2, y3, y4⟩
      · obtain ⟨y1, y2, y3⟩ := qz b o z
        have nD : b ≠ D := fun e => by
          subst e
          rw [x3.h _ _ h2] at y3; cases y3
        exact ⟨by rw [upd_ne nD]; exact y1, y2, (x2.h.trans x3.h).free y3, nD⟩
  · have e : i = ds.length := by omega
    subst e
    refine .inl ⟨wk.stop F2 H2 x2.f x2.sub, h (.ref D) F2 H2 ((D, .lst ws) :: mm) (x1.trans x2) (.lst (fun _ z => nomatch z) ?_ fun o z => (hmm D o z).2.2.2 rfl) fun b o hb => ?_⟩
    · rw [← hk, List.take_length] at dws
      exact dws
    · rcases List.mem_cons.mp hb with z | z
      · cases z
        exact ⟨h2, n2, x1.h.free hD⟩
      · obtain ⟨y1, y2, y3, _⟩ := hmm b o z
        exact ⟨y1, y2, x1.h.free y3⟩
theorem t_lc {t : Bool} {is : List Nat} {ds : List PyData} {ts : List T} (own : List (Str × Nat)) (c : Ctx X C W k) (hi : Iv X W ρ tg iter ds) (hg : ∀ s H Cc cl fp, TgOk (bl X scope s H Cc cl fp) tg t is) (hz : ds.length ≤ sizeLine) (hk : ts.length = ds.length)
    (he : ∀ (i : Nat) (d : PyData) (u : T), ds[i]? = some d → ts[i]? = some u → tgFit t is d ∧ FrTB X scope (setAll (wipeE ρ (own.map (·.2))) is (tgItems t d)) elt u)
    (hin : ∀ i ∈ is, i ∈ own.map (·.2) := by decide) (ok : BlkOk X.N X.env.scope scope own := by exact blkOk_by (by rfl)) (hs : ∀ x, foldedSetIterable iter X.env x = pure x := by intro _; rfl) : FrT X W ρ (.ListComp elt [⟨tg, iter, [], 0⟩] scope pos) (.lst none ts) := by
  obtain ⟨wi, hwi, qi⟩ := hi
  exact fun pins s σ F H M Q I ok' h => (pe_lc (own := own) (g := gOf X.K t is) c.calm c.nd hwi ok hg (fun s H Cc cl fp => pts_nil) (fun s H Cc cl fp => pe_FrTB s H Cc cl fp) hs).run pins s σ H Q I (lc_readT ok' qi hin hz hk he h)
theorem sxs_setLcT (j : Nat) {x : Str} {pos' spos : Pos} {t : Bool} {is : List Nat} {ds : List PyData} {ts : List T} (own : List (Str × Nat)) (c : Ctx X C W k) (hi : Iv X W ρ tg iter ds) (hg : ∀ s H Cc cl fp, TgOk (bl X scope s H Cc cl fp) tg t is) (hz : ds.length ≤ sizeLine) (hk : ts.length = ds.length)
    (he : ∀ (i : Nat) (d : PyData) (u : T), ds[i]? = some d → ts[i]? = some u → tgFit t is d ∧ FrTB X scope (setAll (wipeE ρ (own.map (·.2))) is (tgItems t d)) elt u)
    (kk : Sxs X W rest (ρ.set j (some (tr (.lst none ts)))) Φ)
    (hin : ∀ i ∈ is, i ∈ own.map (·.2) := by decide) (ok : BlkOk X.N X.env.scope scope own := by exact blkOk_by (by rfl)) (hs : ∀ x, foldedSetIterable iter X.env x = pure x := by intro _; rfl)
    (hy : X.N[j]? = some x := by rfl) (hyl : X.env.scope.names.lookup x = some .local := by rfl) (hsw : swapsWith (.ListComp elt [⟨tg, iter, [], 0⟩] scope pos) (some (.Name x pos')) spos.line X.env = pure true := by exact sw_true rfl rfl rfl (by rfl)) :
    Sxs X W (.Assign [.Name x pos'] (.ListComp elt [⟨tg, iter, [], 0⟩] scope pos) spos :: rest) ρ Φ := by
  obtain ⟨wi, hwi, qi⟩ := hi
  exact sxs_of (ps_setLc (own := own) (g := gOf X.K t is) c.calm c.nd hy hyl hsw hwi ok hg (fun s H Cc cl fp => pts_nil) (fun s H Cc cl fp => pe_FrTB s H Cc cl fp) hs) fun σ F H M B F0 D ok' q =>
    lc_readT ok'.ok qi hin hz hk he fun v F' H' m x hv hm => by
      have y : PInv X.K B F0 (ρ.set j (some (tr (.lst none ts)))) F' (σ.set j (some v)) H' (upM M j m) := (ok'.ext x).set hv fun a o z => by
        obtain ⟨y1, y2, y3⟩ := hm a o z
        refine ⟨y1, y2, ok'.base.free y3, fun i o' hj hm' => ?_⟩
        have w := (ok'.ok.own i a o' hm').1
        rw [y3] at w; cases w
      exact ⟨_, Φ, F', _, B, F0, kk, y, q⟩
end
end PV

/-! The pure-value layer: further rules. -/
namespace PV
open PySem PySem.Spec PyProof.Rows L2
section
variable {X : Cx} {W : Wc} {ρ : Env} {e a b tg : Expr} {es : List Expr} {pos p : Pos} {C : Ec → Addr} {k : Nat} {rest body : List Stmt} {Φ : Out → Prop}
/-- for, by what is left: R tells of the state and of the items that are left -/
theorem sxs_forL {α S : Type} {t : Bool} {is : List Nat} (enc : α → PyData) (xs : List α) (envOf : S → Env) (R : S → List α → Prop) (s0 : S) (c : Ctx X C W k) (hi : Iv X W ρ tg a (xs.map enc)) (hg : TgOk X tg t is) (hw : Wk ρ (envOf s0)) (h0 : R s0 xs)
    (step : ∀ s x ys, R s (x :: ys) → tgFit t is (enc x) ∧ Sxs X W body (setAll (envOf s) is (tgItems t (enc x))) (turnS (fun ρ' => ∃ s', ρ' = envOf s' ∧ R s' ys) X W rest Φ))
    (done : ∀ s, R s [] → Sxs X W rest (envOf s) Φ) (hs : ∀ x, foldedSetIterable a X.env x = pure x := by intro _; rfl) : Sxs X W (.For tg a body [] pos :: rest) ρ Φ := by
  refine sxs_for c (fun i ρ => ∃ s, Wk ρ (envOf s) ∧ R s (xs.drop i)) hi hg ⟨s0, hw, by simpa using h0⟩ (fun i d ρ hd ⟨s, w, h⟩ => ?_) (fun ρ ⟨s, w, h⟩ => ?_) hs
  · rw [List.getElem?_map] at hd
    cases q : xs[i]? with
    | none => rw [q] at hd; cases hd
    | some x =>
      rw [q] at hd
      have ed : enc x = d := Option.some.inj hd
      subst ed
      have hl := (List.getElem?_eq_some_iff.mp q).1
      have e : xs.drop i = x :: xs.drop (i + 1) := by
        rw [List.drop_eq_getElem_cons hl, (List.getElem?_eq_some_iff.mp q).2]
      rw [e] at h
      obtain ⟨f, b⟩ := step s x _ h
      refine ⟨f, ?_⟩
      have wk : ∀ (is : List Nat) (ds : List PyData) (ρ1 ρ2 : Env), Wk ρ1 ρ2 → Wk (setAll ρ1 is ds) (setAll ρ2 is ds) := by
        intro is
        induction is with
        | nil => intro ds ρ1 ρ2 w; cases ds <;> exact w
        | cons i is ih =>
          intro ds ρ1 ρ2 w
          cases ds with
          | nil => exact w
          | cons d ds =>
            refine ih ds _ _ ⟨by rw [List.length_set, List.length_set]; exact w.1, fun j T hj => ?_⟩
            by_cases hji : i = j
            · subst hji
              have hl : i < ρ2.length := by
                have := (List.getElem?_eq_some_iff.mp hj).1
                simpa using this
              rw [List.getElem?_set_self hl] at hj
              rw [List.getElem?_set_self (by rw [← w.1]; exact hl)]
              exact hj
            · rw [List.getElem?_set_ne hji] at hj ⊢
              exact w.2 j T hj
      refine sxs_weak (wk _ _ _ _ w) (sxs_mono b fun o ho => ?_)
      cases o with
      | next ρ' =>
        obtain ⟨ρ'', w', s', e', h'⟩ := ho
        subst e'
        exact ⟨_, w', s', Wk.refl _, h'⟩
      | cont ρ' =>
        obtain ⟨ρ'', w', s', e', h'⟩ := ho
        subst e'
        exact ⟨_, w', s', Wk.refl _, h'⟩
      | brk ρ' => exact ho
      | ret S ρ' => exact ho
      | raise c ρ' => exact ho
  · rw [List.length_map, List.drop_length] at h
    exact sxs_weak w (done s h)
/-- what is known less, place by place -/
def WkL : Env → Env → Prop
  | [], [] => True
  | _ :: a, none :: b => WkL a b
  | x :: a, some S :: b => x = some S ∧ WkL a b
  | _, _ => False
theorem Wk.of : ∀ {a b : Env}, WkL a b → Wk a b
  | [], [], _ => ⟨rfl, fun _ _ h => h⟩
  | x :: a, none :: b, h => by
    obtain ⟨h1, h2⟩ := Wk.of (a := a) (b := b) h
    refine ⟨congrArg (· + 1) h1, fun i S e => ?_⟩
    cases i with
    | zero => simp at e
    | succ i => simpa using h2 i S (by simpa using e)
  | x :: a, some T :: b, h => by
    have h : x = some T ∧ WkL a b := h
    obtain ⟨h1, h2⟩ := Wk.of (a := a) (b := b) h.2
    refine ⟨congrArg (· + 1) h1, fun i S e => ?_⟩
    cases i with
    | zero => rw [h.1]; exact e
    | succ i => simpa using h2 i S (by simpa using e)
  | [], _ :: _, h => by simp [WkL] at h
  | _ :: _, [], h => by simp [WkL] at h
/-- raise X('..') -/
theorem sxs_raise {cls : Str} {m : Str} {jj : Nat} {p1 p2 p3 : Pos} {bm : List Value} {Bs newId initId : String} (x : Ec) (c : Ctx X C W k) (Fx : ExcBaseFacts Bs newId initId bm) (q : PySem.W.excIn X.K (C x) bm newId = true) (gC : X.mg cls = some (.ref (C x))) (kC : PySem.W.keepIn X.K (.ref (C x)) = true)
    (bs : PySem.W.subIn X.K (.ref (C x)) (.type "BaseException") = some true) (ty : PySem.W.typeIn X.K (.ref (C x)) = some (.type "type")) (h : Φ (.raise x ρ)) (hg : Gl X cls := by rfl) (hdb : (cls == ("__debug__" : Str)) = false := by decide) : Sxs X W (.Raise (some (.Call (.Name cls p1) [.Constant (.str m) jj p2] [] p3)) none pos :: rest) ρ Φ :=
  sxs_of (ps_raise c.calm c.tk (pmk_own Fx q gC kC (raises_own bs ty) hg hdb)) fun σ F H M B F0 D ok qq => ⟨x, rfl, rfl, qq _ h F σ H M ok⟩
/-- a text times a number -/
theorem ev_mulS {z : Str} {n : Int} (c : MulOk z n) (ha : Ev X W ρ a (.str z)) (hb : Ev X W ρ b (.int n)) : Ev X W ρ (.BinOp a .Mult b pos) (.str (Txt.mul z n)) :=
  ev_op (r := fun x y H Q => ∃ z n, x = .str z ∧ y = .int n ∧ MulOk z n ∧ Q (.str (Txt.mul z n)) H) (fun pins s σ H x y v u Q I rx ry h => by
    obtain ⟨z, n, rfl, rfl, c, q⟩ := h
    obtain ⟨t, rfl⟩ := rx
    obtain ⟨t', rfl⟩ := ry
    exact PySem.SB.mul c fun t2 k => ⟨.str _, H, I.tok _, ⟨_, rfl⟩, q⟩) ha hb fun x y F H Q s dx dy h => ⟨z, n, dq_str dx, dq_int dy, c, h _ F H (.refl s) (.str _)⟩
theorem mulOk_small {x : Str} {n : Int} (h1 : -(2 ^ 40) ≤ n) (h2 : n < 2 ^ 40) (h3 : x.length * n.toNat ≤ 1000000) : MulOk x n := by
  refine ⟨?_, fun hn _ => ?_, fun hn _ => ?_⟩
  · have e1 : ¬ n < -(2 ^ 63 : Int) := by omega
    have e2 : ¬ n ≥ 2 ^ 63 := by omega
    rw [decide_eq_false e1, decide_eq_false e2]; rfl
  · have h4 : ((x.length : Int)) * n ≤ 1000000 := by
      have e : n = (n.toNat : Int) := by omega
      rw [e]
      have h3' : ((x.length * n.toNat : Nat) : Int) ≤ 1000000 := Int.ofNat_le.mpr h3
      rw [Int.natCast_mul] at h3'
      exact h3'
    intro hgt
    have hp : 0 < n := by omega
    have h5 : (2 ^ 63 - 1) / n * n ≤ 2 ^ 63 - 1 := Int.ediv_mul_le _ (by omega)
    have h6 : (2 ^ 63 - 1 : Int) < ((2 ^ 63 - 1) / n + 1) * n := Int.lt_ediv_add_one_mul_self _ hp
    have h7 : ((2 ^ 63 - 1) / n + 1) * n ≤ (x.length : Int) * n := Int.mul_le_mul_of_nonneg_right (by omega) (by omega)
    omega
  · have e : ¬ (x.length * n.toNat > sizeLine) := by
      have : (1000000 : Nat) ≤ sizeLine := by rw [sizeLine_eq]; decide
      omega
    exact decide_eq_false e
end
theorem foldl_app' (x : Array Nat) : ∀ (n : Nat) (acc : Array Nat), ((List.replicate n x).foldl (· ++ ·) acc).toList = acc.toList ++ (List.replicate n x.toList).flatten
  | 0, acc => by simp
  | n + 1, acc => by
    rw [List.replicate_succ, List.foldl_cons, foldl_app' x n, List.replicate_succ, List.flatten_cons]
    simp
/-- the signs of a text times a number -/
theorem mul_list (x : Str) (n : Int) : (Txt.mul x n).cps.toList = (List.replicate n.toNat x.cps.toList).flatten := by
  unfold Txt.mul
  split
  · rename_i h
    have e : n.toNat = 0 := by omega
    rw [e]; rfl
  · split
    · rename_i h1 h2
      simp only [Bool.or_eq_true, beq_iff_eq] at h2
      rcases h2 with h2 | h2
      · subst h2; simp
      · have e : x.cps.toList = [] := by
          have : x.cps.size = 0 := h2
          simpa using this
        rw [e]; simp
    · rw [foldl_app']; simp
end PV

/-! The pure-value layer: borrowing; loops over trees. -/
namespace PV
open PySem PySem.Spec PyProof.Rows L2
/-- as S is read while nothing changes -/
def Brw (S S' : Slot) : Prop := ∀ (K : PySem.W.Frag) (F H : Hp) (v : V) (m : Mini), Same F H → (∀ a o, (a, o) ∈ m → H a = some o) → S.R K F v m → S'.R K H v []
theorem brw_fz {d : PyData} : Brw (fz d) (fz d) := fun K F H v m s _ h => ⟨rfl, dq_mono s _ _ h.2⟩
theorem brw_kn {ds : List PyData} : Brw (kn ds) (kn ds) := fun K F H v m s _ ⟨_, a, vs, h1, h2, h3⟩ => ⟨rfl, a, vs, h1, s.seq h2, dqAll_mono s _ _ h3⟩
theorem brw_ow {p : Option Addr} {ds : List PyData} : Brw (ow p ds) (fz (.list ds)) := fun K F H v m s q ⟨a, vs, h1, h2, h3, h4⟩ => by
  subst h1
  exact ⟨rfl, .lst (.inl (q a _ (by rw [h2]; exact List.mem_cons_self))) (dqAll_mono s _ _ h4)⟩
theorem brw_tr {t : T} : Brw (tr t) (fz t.er) := fun K F H v m s q h => ⟨rfl, OT.dq s _ _ _ h q⟩
theorem brw_adr {l : Addr} : Brw (adr l) (adr l) := fun K F H v m s q h => ⟨rfl, h.2⟩
inductive FrzL : Env → Env → Prop
  | nil : FrzL [] []
  | skip {x : Option Slot} {a b : Env} : FrzL a b → FrzL (x :: a) (none :: b)
  | keep {S S' : Slot} {a b : Env} : Brw S S' → FrzL a b → FrzL (some S :: a) (some S' :: b)
theorem FrzL.len : ∀ {a b : Env}, FrzL a b → b.length = a.length
  | _, _, .nil => rfl
  | _, _, .skip h => congrArg (· + 1) h.len
  | _, _, .keep _ h => congrArg (· + 1) h.len
theorem FrzL.get : ∀ {a b : Env} {i : Nat} {S' : Slot}, FrzL a b → b[i]? = some (some S') → ∃ S, a[i]? = some (some S) ∧ Brw S S'
  | _, _, _, _, .nil, e => by simp at e
  | _, _, 0, _, .skip h, e => by simp at e
  | _, _, 0, _, .keep q h, e => by simp at e; subst e; exact ⟨_, rfl, q⟩
  | _, _, i + 1, _, .skip h, e => by
    obtain ⟨S, h1, h2⟩ := FrzL.get (i := i) h (by simpa using e)
    exact ⟨S, by simpa using h1, h2⟩
  | _, _, i + 1, _, .keep q h, e => by
    obtain ⟨S, h1, h2⟩ := FrzL.get (i := i) h (by simpa using e)
    exact ⟨S, by simpa using h1, h2⟩
theorem EOk.frz {K : PySem.W.Frag} {ρ ρ' : Env} {F H : Hp} {σ : St} {M : Nat → Mini} (x : EOk K ρ F σ H M) (f : FrzL ρ ρ') : EOk K ρ' H σ H (fun _ => []) where
  len := x.len.trans f.len.symm
  sub := .refl _
  at_ := fun i S' h => by
    obtain ⟨S, h1, h2⟩ := f.get h
    obtain ⟨v, h3, h4⟩ := x.at_ i S h1
    exact ⟨v, h3, h2 K F H v (M i) x.sub (fun a o z => (x.own i a o z).1) h4⟩
  own := fun _ _ _ z => nomatch z
  apart := fun _ _ _ _ _ z => nomatch z
theorem Ext.under {F H F' H' : Hp} (s : Same F H) (x : Ext H H F' H') : Ext F H F H' := ⟨.refl _, x.h, s.trans x.h, fun a o h1 h2 => by rw [h1] at h2; cases h2⟩
/-- a tree whose frozen parts are no objects -/
def T.sc : T → Bool
  | .fz d => scalar d
  | .lst _ ts => T.scs ts
  | .tup _ ts => T.scs ts
where T.scs : List T → Bool
  | [] => true
  | t :: ts => t.sc && T.scs ts
section
variable {K : PySem.W.Frag} {F F' : Hp}
mutual
theorem OT.sc : ∀ (t : T) (v : V) (m : Mini), t.sc = true → OT K F v t m → OT K F' v t m
  | .fz d, _, _, s, h => by cases h with | fz h => exact .fz (dq_scalar h (by simpa [T.sc] using s))
  | .lst l ts, _, _, s, h => by cases h with | lst h1 h2 h3 => exact .lst h1 (OTs.sc ts _ _ (by simpa [T.sc] using s) h2) h3
  | .tup l ts, _, _, s, h => by cases h with | tup h1 h2 h3 => exact .tup h1 (OTs.sc ts _ _ (by simpa [T.sc] using s) h2) h3
theorem OTs.sc : ∀ (ts : List T) (vs : List V) (m : Mini), T.sc.T.scs ts = true → OTs K F vs ts m → OTs K F' vs ts m
  | [], _, _, _, h => by cases h; exact .nil
  | t :: ts, _, _, s, h => by
    have s' : t.sc = true ∧ T.sc.T.scs ts = true := by simpa [T.sc.T.scs] using s
    cases h with | cons h1 h2 h3 => exact .cons (OT.sc t _ _ s'.1 h1) (OTs.sc ts _ _ s'.2 h2) h3
end
end
section
variable {X : Cx} {W : Wc} {ρ ρ' : Env} {e a b tg : Expr} {es : List Expr} {pos p : Pos} {C : Ec → Addr} {k : Nat} {rest body : List Stmt} {Φ : Out → Prop}
theorem ev_borrow {d : PyData} (f : FrzL ρ ρ') (h : Ev X W ρ' e d) (s : scalar d = true := by rfl) : Ev X W ρ e d := fun pins st σ F H M Q I ok q _ =>
  h pins st σ H H _ Q I (ok.frz f) (fun d' hd v F' H' x dv => by cases hd; exact q _ rfl v F H' (.under ok.sub x) (dq_scalar dv s)) fun c hc => nomatch hc
theorem tst_borrow {b : Bool} (f : FrzL ρ ρ') (h : Tst X W ρ' e b) : Tst X W ρ e b := fun pins st σ F H M Q I ok q => h pins st σ H H _ Q I (ok.frz f) fun F' H' x => q F H' (.under ok.sub x)
theorem t_borrow {t : T} (f : FrzL ρ ρ') (h : FrT X W ρ' e t) (s : t.sc = true) : FrT X W ρ e t := fun pins st σ F H M Q I ok q =>
  h pins st σ H H _ Q I (ok.frz f) fun v F' H' m x hv hm => q v F H' m (.under ok.sub x) (OT.sc t v m s hv) fun a o z => ⟨(hm a o z).1, ok.sub.free (hm a o z).2.2, (hm a o z).2.2⟩

/-! ### a part of a tree by where it stands -/
/-- with its place -/
def T.ann : T → Addr → T
  | .fz d, _ => .fz d
  | .lst _ ts, q => .lst (some q) ts
  | .tup _ ts, q => .tup (some q) ts
theorem OTs.same {K : PySem.W.Frag} {F : Hp} : ∀ {vs : List V} {ts : List T} {m : Mini} {n : Nat} {u u' : T}, OTs K F vs ts m → ts[n]? = some u → (∀ w mu, vs[n]? = some w → OT K F w u mu → OT K F w u' mu) → OTs K F vs (ts.set n u') m
  | _, _, _, _, _, _, .nil, e, _ => by simp at e
  | _, _, _, 0, u, u', .cons h t a, e, q => by
    have e : _ = u := Option.some.inj e
    subst e
    exact .cons (q _ _ rfl h) t a
  | _, _, _, n + 1, u, u', .cons h t a, e, q => .cons h (OTs.same t (by simpa using e) fun w mu hw => q w mu (by simpa using hw)) a
theorem OTs.same2 {K : PySem.W.Frag} {F : Hp} : ∀ {vs : List V} {ts : List T} {m : Mini} {n : Nat} {u u' : T}, OTs K F vs ts m → ts[n]? = some u → (∀ w mu, vs[n]? = some w → OT K F w u mu → (∀ x, x ∈ mu → x ∈ m) → OT K F w u' mu) → OTs K F vs (ts.set n u') m
  | _, _, _, _, _, _, .nil, e, _ => by simp at e
  | _, _, _, 0, u, u', .cons h t a, e, q => by
    have e : _ = u := Option.some.inj e
    subst e
    exact .cons (q _ _ rfl h fun x hx => List.mem_append_left _ hx) t a
  | _, _, _, n + 1, u, u', .cons h t a, e, q => .cons h (OTs.same2 t (by simpa using e) fun w mu hw ho hs => q w mu (by simpa using hw) ho fun x hx => List.mem_append_right _ (hs x hx)) a
/-- what a name holds of a part of a tree -/
def slotOf : T → Addr → Slot
  | .fz d, _ => fz d
  | _, q => adr q
theorem PInv.reslot {K : PySem.W.Frag} {B F0 F H : Hp} {σ : St} {M : Nat → Mini} {j : Nat} {S S' : Slot} {v : V} (x : PInv K B F0 ρ F σ H M) (hj : ρ[j]? = some (some S)) (hσ : σ[j]? = some (some v)) (hS : S'.R K F v (M j)) : PInv K B F0 (ρ.set j (some S')) F σ H M := by
  refine ⟨⟨by rw [List.length_set]; exact x.ok.len, x.ok.sub, fun i T hi => ?_, x.ok.own, x.ok.apart⟩, x.base, x.f0, x.nb, x.mb⟩
  by_cases hij : i = j
  · subst hij
    have hl : i < ρ.length := (List.getElem?_eq_some_iff.mp hj).1
    rw [List.getElem?_set_self hl] at hi
    cases hi
    exact ⟨v, hσ, hS⟩
  · rw [List.getElem?_set_ne (Ne.symm hij)] at hi
    exact x.ok.at_ i T hi
/-- for x in a list of trees: x holds where the item stands, q0 is where the list stands; R tells of the state and the items, by how many are done -/
theorem sxs_forTr {St0 : Type} (j i0 : Nat) {x y : Str} {p1 p2 : Pos} {l : Option Addr} {ts : List T} (c : Ctx X C W k) (base : St0 → Env) (R : Nat → St0 → List T → Prop) (s0 : St0) (hij : i0 ≠ j) (hb : ∀ s, j < (base s).length) (hw : Wk ρ ((base s0).set j (some (tr (.lst l ts))))) (h0 : R 0 s0 ts) (hR : ∀ n s us, R n s us → us.length = ts.length)
    (step : ∀ q0 n s us u, R n s us → us[n]? = some u → (∀ d, u ≠ .fz d) ∧ ∀ q : Addr, Sxs X W body (((base s).set j (some (tr (.lst (some q0) (us.set n (u.ann q)))))).set i0 (some (adr q))) (turnS (fun ρ' => ∃ s' us', ρ' = (base s').set j (some (tr (.lst (some q0) us'))) ∧ R (n + 1) s' us') X W rest Φ))
    (done : ∀ q0 s us, R ts.length s us → Sxs X W rest ((base s).set j (some (tr (.lst (some q0) us)))) Φ)
    (hNj : X.N[j]? = some x := by rfl) (hvj : Vis X.env.scope x := by first | exact Or.inl rfl | exact Or.inr (Or.inl rfl) | exact Or.inr (Or.inr rfl)) (hd1 : (x == ("__debug__" : Str)) = false := by decide) (hd2 : (x == ("__classdict__" : Str)) = false := by decide)
    (hi : X.N[i0]? = some y := by rfl) (hx : Loc X.env.scope y := by first | exact Or.inl rfl | exact Or.inr rfl) (hf : X.fn y = true ∨ X.env.scope.names.lookup y = some .local := by first | exact .inl rfl | exact .inr rfl)
    (hs : ∀ z, foldedSetIterable (.Name x p2) X.env z = pure z := by intro _; rfl) : Sxs X W (.For (.Name y p1) (.Name x p2) body [] pos :: rest) ρ Φ := by
  have he : ∀ l s us, ((base s).set j (some (tr (.lst l us))))[j]? = some (some (tr (.lst l us))) := fun l s us => List.getElem?_set_self (hb s)
  refine sxs_weak hw (sxs_of (ps_for c.po c.calm (pi_list (pe_var hNj hvj hd1 hd2)) (pg_name c.nd hi hx hf) (pss_Sxs X W body) hs) fun σ F H M B F0 D ok q => ?_)
  obtain ⟨v, hσ, hv⟩ := ok.ok.at_ j _ (he l s0 ts)
  have hm0 : ∀ a o, (a, o) ∈ M j → H a = some o := fun a o z => (ok.ok.own j a o z).1
  obtain ⟨a, rfl, hva, ha⟩ : ∃ a, v = .ref a ∧ OT X.K F v (.lst (some a) ts) (M j) ∧ ∃ vs, H a = some (.lst vs) := by
    have hv' : OT X.K F v (.lst l ts) (M j) := hv
    generalize hM : M j = mj at hv' hm0
    cases hv' with
    | lst h1 h2 h3 => exact ⟨_, rfl, .lst (fun q e => Option.some.inj e) h2 h3, _, hm0 _ _ List.mem_cons_self⟩
  have okA := ok.reslot (he l s0 ts) hσ (S' := tr (.lst (some a) ts)) hva
  rw [List.set_set] at okA
  obtain ⟨vs0, hvs0⟩ := ha
  refine ⟨_, hσ, a, rfl, ⟨vs0, .of hvs0⟩, ?_⟩
  refine ⟨fun n m σ H => m = ts.length - n ∧ n ≤ ts.length ∧ ∃ s us F M, R n s us ∧ PInv X.K B F0 ((base s).set j (some (tr (.lst (some a) us)))) F σ H M, ⟨_, rfl, Nat.zero_le _, s0, ts, F, M, h0, okA⟩, ?_⟩
  rintro n m σ2 H2 ⟨rfl, hle, s, us, F2, M2, r2, ok2⟩
  obtain ⟨v2, hσ2, hv2⟩ := ok2.ok.at_ j _ (he (some a) s us)
  have hm2 : ∀ a o, (a, o) ∈ M2 j → H2 a = some o := fun a o z => (ok2.ok.own j a o z).1
  have hus := hR n s us r2
  have hv3 : OT X.K F2 v2 (.lst (some a) us) (M2 j) := hv2
  generalize hM2 : M2 j = mj at hv3 hm2
  cases hv3 with
  | @lst a2 _ vs _ mm g1 g2 g3 =>
    have ea : a2 = a := g1 a rfl
    subst ea
    have hH2 : H2 a2 = some (.lst vs) := hm2 _ _ List.mem_cons_self
    have hvl : vs.length = ts.length := g2.len.trans hus
    by_cases hlt : n < ts.length
    · refine .inr ⟨⟨vs, vs[n]'(by omega), .of hH2, List.getElem?_eq_getElem (by omega)⟩, fun σ' H' => n + 1 ≤ ts.length ∧ ∃ s us F M, R (n + 1) s us ∧ PInv X.K B F0 ((base s).set j (some (tr (.lst (some a2) us)))) F σ' H' M, fun σ' H' ⟨a1, a2⟩ => ⟨ts.length - (n + 1), by omega, rfl, a1, a2⟩, fun w H3 y => ?_⟩
      obtain ⟨rfl, hy⟩ := y
      have hw' := hy vs (.of hH2)
      obtain ⟨u, hu⟩ : ∃ u, us[n]? = some u := ⟨us[n]'(by omega), List.getElem?_eq_getElem (by omega)⟩
      obtain ⟨nf, st⟩ := step a2 n s us u r2 hu
      obtain ⟨w', mu, k1, k2, k3, _⟩ := g2.at hu
      rw [hw'] at k1; cases k1
      -- where the item stands
      have key : ∃ q, w = .ref q ∧ ∀ w2 mu2, vs[n]? = some w2 → OT X.K F2 w2 u mu2 → OT X.K F2 w2 (u.ann q) mu2 := by
        cases u with
        | fz d => exact absurd rfl (nf d)
        | lst l2 us2 =>
          cases k2 with
          | @lst q _ _ _ _ z1 z2 z3 => exact ⟨q, rfl, fun w2 mu2 e2 o2 => by
              rw [hw'] at e2; cases e2
              cases o2 with | lst y1 y2 y3 => exact .lst (fun q' e => Option.some.inj e) y2 y3⟩
        | tup l2 us2 =>
          cases k2 with
          | @tup q _ _ _ _ z1 z2 z3 => exact ⟨q, rfl, fun w2 mu2 e2 o2 => by
              rw [hw'] at e2; cases e2
              cases o2 with | tup y1 y2 y3 => exact .tup (fun q' e => Option.some.inj e) y2 y3⟩
      obtain ⟨q', rfl, ann⟩ := key
      have hann : OT X.K F2 (.ref a2) (.lst (some a2) (us.set n (u.ann q'))) (M2 j) := by
        rw [hM2]
        exact .lst (fun q e => Option.some.inj e) (OTs.same g2 hu ann) g3
      have ok3 := ok2.reslot (he (some a2) s us) hσ2 (S' := tr (.lst (some a2) (us.set n (u.ann q')))) hann
      rw [List.set_set] at ok3
      have ok4 : PInv X.K B F0 (((base s).set j (some (tr (.lst (some a2) (us.set n (u.ann q')))))).set i0 (some (adr q'))) F2 (σ2.set i0 (some (.ref q'))) H3 (upM M2 i0 []) := ok3.set ⟨rfl, rfl⟩ fun _ _ z => nomatch z
      refine ⟨_, _, F2, _, B, F2, st q', ok4.based, fun o ho => ?_⟩
      have again : ∀ ρ', (∃ ρ'', Wk ρ' ρ'' ∧ ∃ s' us', ρ'' = (base s').set j (some (tr (.lst (some a2) us'))) ∧ R (n + 1) s' us') → ∀ F σ H M, PInv X.K B F2 ρ' F σ H M → n + 1 ≤ ts.length ∧ ∃ s us F M, R (n + 1) s us ∧ PInv X.K B F0 ((base s).set j (some (tr (.lst (some a2) us)))) F σ H M := fun ρ' ⟨ρ'', w, s', us', e, h⟩ F σ H M ok5 => by
        subst e
        exact ⟨hlt, s', us', F, M, h, (ok4.rebase ok5).weak w⟩
      cases o with
      | next ρ' => exact again ρ' ho
      | cont ρ' => exact again ρ' ho
      | brk ρ' => exact fun F σ H M ok5 => ⟨ρ', Φ, F, M, B, F0, ho, ok4.rebase ok5, q⟩
      | ret S ρ' => exact fun v F σ H M ok5 => q _ ho v F σ H M (ok4.rebase ok5)
      | raise c ρ' => exact fun F σ H M ok5 => q _ ho F σ H M (ok4.rebase ok5)
    · have e : n = ts.length := by omega
      subst e
      exact .inl ⟨⟨vs, .of hH2, by omega⟩, ⟨_, Φ, F2, M2, B, F0, done a2 s us r2, ok2, q⟩⟩
/-- the same for x, y in a list of pairs whose first is data: y holds where the second stands, or its data -/
theorem sxs_forTrP {St0 : Type} (j i1 i0 : Nat) {x y1 y : Str} {p1 p2 p3 p4 : Pos} {kk : Nat} {l : Option Addr} {ts : List T} (c : Ctx X C W k) (base : St0 → Env) (R : Nat → St0 → List T → Prop) (s0 : St0) (hij : i0 ≠ j) (hb : ∀ s, j < (base s).length) (hw : Wk ρ ((base s0).set j (some (tr (.lst l ts))))) (h0 : R 0 s0 ts) (hR : ∀ n s us, R n s us → us.length = ts.length)
    (step : ∀ q0 n s us u, R n s us → us[n]? = some u → ∃ l1 d1 c1, u = .tup l1 [.fz d1, c1] ∧ ∀ q : Addr, Sxs X W body ((((base s).set j (some (tr (.lst (some q0) (us.set n (.tup l1 [.fz d1, c1.ann q])))))).set i1 (some (fz d1))).set i0 (some (slotOf c1 q))) (turnS (fun ρ' => ∃ s' us', ρ' = (base s').set j (some (tr (.lst (some q0) us'))) ∧ R (n + 1) s' us') X W rest Φ))
    (done : ∀ q0 s us, R ts.length s us → Sxs X W rest ((base s).set j (some (tr (.lst (some q0) us)))) Φ)
    (hNj : X.N[j]? = some x := by rfl) (hvj : Vis X.env.scope x := by first | exact Or.inl rfl | exact Or.inr (Or.inl rfl) | exact Or.inr (Or.inr rfl)) (hd1 : (x == ("__debug__" : Str)) = false := by decide) (hd2 : (x == ("__classdict__" : Str)) = false := by decide)
    (hi1 : X.N[i1]? = some y1 := by rfl) (hx1 : Loc X.env.scope y1 := by first | exact Or.inl rfl | exact Or.inr rfl) (hf1 : X.fn y1 = true ∨ X.env.scope.names.lookup y1 = some .local := by first | exact .inl rfl | exact .inr rfl)
    (hi : X.N[i0]? = some y := by rfl) (hx : Loc X.env.scope y := by first | exact Or.inl rfl | exact Or.inr rfl) (hf : X.fn y = true ∨ X.env.scope.names.lookup y = some .local := by first | exact .inl rfl | exact .inr rfl)
    (hs1 : (assignEach [.Name y1 p3, .Name y p1] X.env).map (·.2) = assign (.Name y1 p3) X.env :: (assignEach [.Name y p1] X.env).map (·.2) := by rfl) (hs2 : (assignEach [.Name y p1] X.env).map (·.2) = assign (.Name y p1) X.env :: (assignEach [] X.env).map (·.2) := by rfl)
    (hn1 : (assignEach [.Name y1 p3, .Name y p1] X.env).length = 2 := by rfl) (hst1 : (assignEach [.Name y1 p3, .Name y p1] X.env).findIdx? (·.1) = none := by rfl)
    (hs : ∀ z, foldedSetIterable (.Name x p2) X.env z = pure z := by intro _; rfl) : Sxs X W (.For (.Tuple [.Name y1 p3, .Name y p1] kk p4) (.Name x p2) body [] pos :: rest) ρ Φ := by
  have he : ∀ l s us, ((base s).set j (some (tr (.lst l us))))[j]? = some (some (tr (.lst l us))) := fun l s us => List.getElem?_set_self (hb s)
  refine sxs_weak hw (sxs_of (ps_for c.po c.calm (pi_list (pe_var hNj hvj hd1 hd2)) (pg_tup c.calm (pgs_cons (pg_name c.nd hi1 hx1 hf1) (pgs_cons (pg_name c.nd hi hx hf) pgs_nil hs2) hs1) hn1 hst1) (pss_Sxs X W body) hs) fun σ F H M B F0 D ok q => ?_)
  obtain ⟨v, hσ, hv⟩ := ok.ok.at_ j _ (he l s0 ts)
  have hm0 : ∀ a o, (a, o) ∈ M j → H a = some o := fun a o z => (ok.ok.own j a o z).1
  obtain ⟨a, rfl, hva, ha⟩ : ∃ a, v = .ref a ∧ OT X.K F v (.lst (some a) ts) (M j) ∧ ∃ vs, H a = some (.lst vs) := by
    have hv' : OT X.K F v (.lst l ts) (M j) := hv
    generalize hM : M j = mj at hv' hm0
    cases hv' with
    | lst h1 h2 h3 => exact ⟨_, rfl, .lst (fun q e => Option.some.inj e) h2 h3, _, hm0 _ _ List.mem_cons_self⟩
  have okA := ok.reslot (he l s0 ts) hσ (S' := tr (.lst (some a) ts)) hva
  rw [List.set_set] at okA
  obtain ⟨vs0, hvs0⟩ := ha
  refine ⟨_, hσ, a, rfl, ⟨vs0, .of hvs0⟩, ?_⟩
  refine ⟨fun n m σ H => m = ts.length - n ∧ n ≤ ts.length ∧ ∃ s us F M, R n s us ∧ PInv X.K B F0 ((base s).set j (some (tr (.lst (some a) us)))) F σ H M, ⟨_, rfl, Nat.zero_le _, s0, ts, F, M, h0, okA⟩, ?_⟩
  rintro n m σ2 H2 ⟨rfl, hle, s, us, F2, M2, r2, ok2⟩
  obtain ⟨v2, hσ2, hv2⟩ := ok2.ok.at_ j _ (he (some a) s us)
  have hm2 : ∀ a o, (a, o) ∈ M2 j → H2 a = some o := fun a o z => (ok2.ok.own j a o z).1
  have hus := hR n s us r2
  have hv3 : OT X.K F2 v2 (.lst (some a) us) (M2 j) := hv2
  generalize hM2 : M2 j = mj at hv3 hm2
  cases hv3 with
  | @lst a2 _ vs _ mm g1 g2 g3 =>
    have ea : a2 = a := g1 a rfl
    subst ea
    have hH2 : H2 a2 = some (.lst vs) := hm2 _ _ List.mem_cons_self
    have hvl : vs.length = ts.length := g2.len.trans hus
    by_cases hlt : n < ts.length
    · refine .inr ⟨⟨vs, vs[n]'(by omega), .of hH2, List.getElem?_eq_getElem (by omega)⟩, fun σ' H' => n + 1 ≤ ts.length ∧ ∃ s us F M, R (n + 1) s us ∧ PInv X.K B F0 ((base s).set j (some (tr (.lst (some a2) us)))) F σ' H' M, fun σ' H' ⟨a1, a2⟩ => ⟨ts.length - (n + 1), by omega, rfl, a1, a2⟩, fun w H3 y => ?_⟩
      obtain ⟨rfl, hy⟩ := y
      have hw' := hy vs (.of hH2)
      obtain ⟨u, hu⟩ : ∃ u, us[n]? = some u := ⟨us[n]'(by omega), List.getElem?_eq_getElem (by omega)⟩
      obtain ⟨l1, d1, c1, rfl, st⟩ := step a2 n s us u r2 hu
      obtain ⟨w', mu, k1, k2, k3, _⟩ := g2.at hu
      rw [hw'] at k1; cases k1
      -- where the pair and its second stand
      have key : ∃ qq w1 w2, w = .ref qq ∧ H3 qq = some (.tup [w1, w2]) ∧ Dq X.K F2 w1 d1 ∧ ∃ q, (slotOf c1 q).R X.K F2 w2 [] ∧ ∀ w4 mu2, vs[n]? = some w4 → OT X.K F2 w4 (.tup l1 [.fz d1, c1]) mu2 → (∀ x, x ∈ mu2 → x ∈ mm) → OT X.K F2 w4 (.tup l1 [.fz d1, c1.ann q]) mu2 := by
        cases k2 with
        | @tup qq _ ws _ m5 z1 z2 z3 =>
          have hqq : H3 qq = some (.tup ws) := hm2 _ _ (List.mem_cons_of_mem _ (k3 _ List.mem_cons_self))
          cases z2 with
          | @cons w1 _ m6 ws' _ m7 o1 o2 ap =>
            cases o1 with
            | fz hd1 =>
              cases o2 with
              | @cons w2 _ m8 ws'' _ m9 o3 o4 ap2 =>
                cases o4
                cases c1 with
                | fz d2 =>
                  cases o3 with
                  | fz hd2 => exact ⟨qq, w1, w2, rfl, hqq, hd1, 0, ⟨rfl, hd2⟩, fun w4 mu2 _ o _ => o⟩
                | lst l3 us3 =>
                  cases o3 with
                  | @lst q _ _ _ _ y1 y2 y3 => exact ⟨qq, w1, _, rfl, hqq, hd1, q, ⟨rfl, rfl⟩, fun w4 mu2 e o hs => by
                      rw [hw'] at e; cases e
                      cases o with
                      | @tup _ _ ws2 _ _ x1 x2 x3 =>
                        have ew : H3 qq = some (.tup ws2) := hm2 _ _ (List.mem_cons_of_mem _ (hs _ List.mem_cons_self))
                        rw [hqq] at ew; cases ew
                        refine .tup x1 ?_ x3
                        cases x2 with
                        | cons t1 t2 t3 =>
                          cases t2 with
                          | cons t4 t5 t6 => exact .cons t1 (.cons (by cases t4 with | lst r1 r2 r3 => exact .lst (fun q e => Option.some.inj e) r2 r3) t5 t6) t3⟩
                | tup l3 us3 =>
                  cases o3 with
                  | @tup q _ _ _ _ y1 y2 y3 => exact ⟨qq, w1, _, rfl, hqq, hd1, q, ⟨rfl, rfl⟩, fun w4 mu2 e o hs => by
                      rw [hw'] at e; cases e
                      cases o with
                      | @tup _ _ ws2 _ _ x1 x2 x3 =>
                        have ew : H3 qq = some (.tup ws2) := hm2 _ _ (List.mem_cons_of_mem _ (hs _ List.mem_cons_self))
                        rw [hqq] at ew; cases ew
                        refine .tup x1 ?_ x3
                        cases x2 with
                        | cons t1 t2 t3 =>
                          cases t2 with
                          | cons t4 t5 t6 => exact .cons t1 (.cons (by cases t4 with | tup r1 r2 r3 => exact .tup (fun q e => Option.some.inj e) r2 r3) t5 t6) t3⟩
      obtain ⟨qq, w1, w2, rfl, hqq, hd1, q', hq', ann⟩ := key
      have hann : OT X.K F2 (.ref a2) (.lst (some a2) (us.set n (.tup l1 [.fz d1, c1.ann q']))) (M2 j) := by
        rw [hM2]
        exact .lst (fun q e => Option.some.inj e) (OTs.same2 g2 hu ann) g3
      have ok3 := ok2.reslot (he (some a2) s us) hσ2 (S' := tr (.lst (some a2) (us.set n (.tup l1 [.fz d1, c1.ann q'])))) hann
      rw [List.set_set] at ok3
      have ok3' := PInv.setF (i := i1) ok3 hd1
      have ok4 : PInv X.K B F0 ((((base s).set j (some (tr (.lst (some a2) (us.set n (.tup l1 [.fz d1, c1.ann q'])))))).set i1 (some (fz d1))).set i0 (some (slotOf c1 q'))) F2 ((σ2.set i1 (some w1)).set i0 (some w2)) H3 (upM (upM M2 i1 []) i0 []) := ok3'.set hq' fun _ _ z => nomatch z
      refine ⟨qq, [w1, w2], rfl, .of hqq, rfl, w1, [w2], rfl, w2, [], rfl, rfl, _, _, F2, _, B, F2, st q', ok4.based, fun o ho => ?_⟩
      have again : ∀ ρ', (∃ ρ'', Wk ρ' ρ'' ∧ ∃ s' us', ρ'' = (base s').set j (some (tr (.lst (some a2) us'))) ∧ R (n + 1) s' us') → ∀ F σ H M, PInv X.K B F2 ρ' F σ H M → n + 1 ≤ ts.length ∧ ∃ s us F M, R (n + 1) s us ∧ PInv X.K B F0 ((base s).set j (some (tr (.lst (some a2) us)))) F σ H M := fun ρ' ⟨ρ'', w, s', us', e, h⟩ F σ H M ok5 => by
        subst e
        exact ⟨hlt, s', us', F, M, h, (ok4.rebase ok5).weak w⟩
      cases o with
      | next ρ' => exact again ρ' ho
      | cont ρ' => exact again ρ' ho
      | brk ρ' => exact fun F σ H M ok5 => ⟨ρ', Φ, F, M, B, F0, ho, ok4.rebase ok5, q⟩
      | ret S ρ' => exact fun v F σ H M ok5 => q _ ho v F σ H M (ok4.rebase ok5)
      | raise c ρ' => exact fun F σ H M ok5 => q _ ho F σ H M (ok4.rebase ok5)
    · have e : n = ts.length := by omega
      subst e
      exact .inl ⟨⟨vs, .of hH2, by omega⟩, ⟨_, Φ, F2, M2, B, F0, done a2 s us r2, ok2, q⟩⟩
end
end PV

/-! The pure-value layer: equality of data; what a name owns moves on; a list so many times. -/
namespace PV
open PySem PySem.Spec PyProof.Rows L2
/-! ### clean data: no bools, no dicts, so deep at most -/
def cl : Nat → PyData → Bool
  | _, .none => true
  | _, .int _ => true
  | _, .str x => PyData.strOk x
  | n + 1, .list xs => xs.all (cl n)
  | n + 1, .tuple xs => xs.all (cl n)
  | _, _ => false
theorem cl_shape : ∀ (n : Nat) (d : PyData), cl n d = true → d.canLay0 = true ∧ d.depth ≤ n
  | _, .none, _ => ⟨by simp [PyData.canLay0], by simp [PyData.depth]⟩
  | _, .int _, _ => ⟨by simp [PyData.canLay0], by simp [PyData.depth]⟩
  | _, .str x, h => by
    have h : PyData.strOk x = true := by simpa [cl] using h
    exact ⟨by simpa [PyData.canLay0] using h, by simp [PyData.depth]⟩
  | 0, .list _, h => by simp [cl] at h
  | 0, .tuple _, h => by simp [cl] at h
  | _, .bool _, h => by simp [cl] at h
  | _, .dict _, h => by simp [cl] at h
  | n + 1, .list xs, h => by
    have h : xs.all (cl n) = true := by simpa [cl] using h
    have key : ∀ xs : List PyData, xs.all (cl n) = true → PyData.canLayAll0 xs = true ∧ PyData.depthAll xs ≤ n := by
      intro xs
      induction xs with
      | nil => intro _; exact ⟨by simp [PyData.canLayAll0], by simp [PyData.depthAll]⟩
      | cons x xs ih =>
        intro h
        have h' := Bool.and_eq_true_iff.mp (by simpa using h : (cl n x && xs.all (cl n)) = true)
        obtain ⟨a1, a2⟩ := cl_shape n x h'.1
        obtain ⟨b1, b2⟩ := ih h'.2
        refine ⟨by simp [PyData.canLayAll0, a1, b1], ?_⟩
        rw [PyData.depthAll]
        exact Nat.max_le.mpr ⟨a2, b2⟩
    obtain ⟨a, b⟩ := key xs h
    exact ⟨by simpa [PyData.canLay0] using a, by rw [PyData.depth]; omega⟩
  | n + 1, .tuple xs, h => by
    have h : xs.all (cl n) = true := by simpa [cl] using h
    have key : ∀ xs : List PyData, xs.all (cl n) = true → PyData.canLayAll0 xs = true ∧ PyData.depthAll xs ≤ n := by
      intro xs
      induction xs with
      | nil => intro _; exact ⟨by simp [PyData.canLayAll0], by simp [PyData.depthAll]⟩
      | cons x xs ih =>
        intro h
        have h' := Bool.and_eq_true_iff.mp (by simpa using h : (cl n x && xs.all (cl n)) = true)
        obtain ⟨a1, a2⟩ := cl_shape n x h'.1
        obtain ⟨b1, b2⟩ := ih h'.2
        refine ⟨by simp [PyData.canLayAll0, a1, b1], ?_⟩
        rw [PyData.depthAll]
        exact Nat.max_le.mpr ⟨a2, b2⟩
    obtain ⟨a, b⟩ := key xs h
    exact ⟨by simpa [PyData.canLay0] using a, by rw [PyData.depth]; omega⟩
theorem cl_shaped {n : Nat} {d : PyData} (h : cl n d = true) (hn : n ≤ 64 := by decide) : SeqAt.shaped d = true := by
  obtain ⟨a, b⟩ := cl_shape n d h
  unfold SeqAt.shaped
  rw [a, Bool.true_and]
  exact decide_eq_true (Nat.le_trans b hn)
theorem cl_eqv : ∀ (n m : Nat) (d e : PyData), cl n d = true → cl m e = true → (PyData.eqv d e = true ↔ d = e) := by
  have keyL : ∀ (n m : Nat), (∀ (m : Nat) (d e : PyData), cl n d = true → cl m e = true → (PyData.eqv d e = true ↔ d = e)) → ∀ xs ys : List PyData, xs.all (cl n) = true → ys.all (cl m) = true → (PyData.eqvAll xs ys = true ↔ xs = ys) := by
    intro n m ih xs
    induction xs with
    | nil => intro ys _ _; cases ys <;> simp [PyData.eqvAll]
    | cons x xs ihx =>
      intro ys h h'
      cases ys with
      | nil => simp [PyData.eqvAll]
      | cons y ys =>
        have h1 := Bool.and_eq_true_iff.mp (by simpa using h : (cl n x && xs.all (cl n)) = true)
        have h2 := Bool.and_eq_true_iff.mp (by simpa using h' : (cl m y && ys.all (cl m)) = true)
        rw [PyData.eqvAll, Bool.and_eq_true_iff, ih m x y h1.1 h2.1, ihx ys h1.2 h2.2, List.cons.injEq]
  intro n
  induction n with
  | zero =>
    intro m d e h h'
    cases d <;> cases e <;> cases m <;> simp_all [cl, PyData.eqv]
  | succ n ih =>
    intro m d e h h'
    cases d with
    | list xs =>
      cases e with
      | list ys =>
        cases m with
        | zero => simp [cl] at h'
        | succ m =>
          have a : xs.all (cl n) = true := by simpa [cl] using h
          have b : ys.all (cl m) = true := by simpa [cl] using h'
          rw [PyData.eqv, keyL n m ih xs ys a b, PyData.list.injEq]
      | _ => cases m <;> simp_all [cl, PyData.eqv]
    | tuple xs =>
      cases e with
      | tuple ys =>
        cases m with
        | zero => simp [cl] at h'
        | succ m =>
          have a : xs.all (cl n) = true := by simpa [cl] using h
          have b : ys.all (cl m) = true := by simpa [cl] using h'
          rw [PyData.eqv, keyL n m ih xs ys a b, PyData.tuple.injEq]
      | _ => cases m <;> simp_all [cl, PyData.eqv]
    | _ => cases e <;> cases m <;> simp_all [cl, PyData.eqv]
theorem cl_dec {n m : Nat} {d e : PyData} (h : cl n d = true) (h' : cl m e = true) [Decidable (d = e)] : PyData.eqv d e = decide (d = e) := by
  rw [Bool.eq_iff_iff, cl_eqv n m d e h h', decide_eq_true_iff]
theorem cl_same {n : Nat} {d e : PyData} (h : cl n d = true) (q : d = e) : PyData.eqv d e = true := (cl_eqv n n d e h (q ▸ h)).mpr q

/-! ### a new list, so many times -/
section
variable {X : Cx} {W : Wc} {ρ : Env} {e a b d : Expr} {es : List Expr} {pos p : Pos} {C : Ec → Addr} {k : Nat} {rest : List Stmt} {Φ : Out → Prop} {π : List Nat} {t : T} {l : Option Addr} {ts : List T}
theorem DqAll_rep {K : PySem.W.Frag} {F : Hp} {vs : List V} {ds : List PyData} (h : DqAll K F vs ds) : ∀ n : Nat, DqAll K F (List.replicate n vs).flatten (List.replicate n ds).flatten
  | 0 => .nil
  | n + 1 => by
    rw [List.replicate_succ, List.replicate_succ, List.flatten_cons, List.flatten_cons]
    exact DqAll_app h (DqAll_rep h n)
theorem fr_rep {ds : List PyData} {n : Int} (ha : Fr X W ρ a ds) (hb : Ev X W ρ b (.int n)) (c : -(2 ^ 62) ≤ n ∧ n < 2 ^ 62 ∧ ds.length * n.toNat ≤ sizeLine) : Fr X W ρ (.BinOp a .Mult b pos) (List.replicate n.toNat ds).flatten :=
  fun pins s σ F H M Q I ok h => (pe_op op_rep ha.pe hb.pe).run pins s σ H Q I ⟨F, M, ok, fun q vs F1 H1 x1 n1 n2 h1 d1 => rd (ok.ext x1) fun y F2 H2 x2 dy => by
    refine ⟨q, n, vs, rfl, dq_int dy, x2.h _ _ h1, by omega, by omega, by rw [DqAll_len d1]; exact c.2.2, fun p hp => ?_⟩
    have x3 := x1.trans x2
    have hF : F2 p = none := x2.sub.free hp
    exact h p _ F2 _ (x3.trans (.beside x2.sub hp)) (x3.h.free hp) hF upd_same (dqAll_mono x2.f _ _ (DqAll_rep d1 _))⟩

/-! ### moves -/
/-- e's tree: parts of it are what the name j owned, the rest is new -/
def FrM (X : Cx) (W : Wc) (ρ : Env) (e : Expr) (j : Nat) (t : T) : Prop :=
  ∀ (pins : List (Addr × Obj)) (s : Shared) (σ : St) (F H : Hp) (M : Nat → Mini) (Q : VK), Inv X pins σ H s → EOk X.K ρ F σ H M →
    (∀ v F' H' m, Ext F H F' H' → OT X.K F' v t m → (∀ a o, (a, o) ∈ m → (a, o) ∈ M j ∨ (H' a = some o ∧ F' a = none ∧ H a = none)) → Q v H') →
    wpAny (model X.prog X.w) X.A (eval e X.env) (EP X pins σ Q) X.xe s
def tFrM (X : Cx) (ρ : Env) (j : Nat) (t : T) : TE := fun σ H Q => ∃ F M, EOk X.K ρ F σ H M ∧ (∀ v F' H' m, Ext F H F' H' → OT X.K F' v t m → (∀ a o, (a, o) ∈ m → (a, o) ∈ M j ∨ (H' a = some o ∧ F' a = none ∧ H a = none)) → Q v H')
def FrMA (X : Cx) (W : Wc) (ρ : Env) (es : List Expr) (j : Nat) (ts : List T) : Prop :=
  ∀ (pos : Pos) (pins : List (Addr × Obj)) (s : Shared) (σ : St) (F H : Hp) (M : Nat → Mini) (Q : List V → Hp → Prop), Inv X pins σ H s → EOk X.K ρ F σ H M →
    (∀ vs F' H' m, Ext F H F' H' → OTs X.K F' vs ts m → (∀ a o, (a, o) ∈ m → (a, o) ∈ M j ∨ (H' a = some o ∧ F' a = none ∧ H a = none)) → Q vs H') →
    wpAny (model X.prog X.w) X.A (spliced (backTo pos (starEach es X.env))) (AP X pins σ Q) X.xe s
def tFrMA (X : Cx) (ρ : Env) (j : Nat) (ts : List T) : TA := fun σ H Q => ∃ F M, EOk X.K ρ F σ H M ∧ (∀ vs F' H' m, Ext F H F' H' → OTs X.K F' vs ts m → (∀ a o, (a, o) ∈ m → (a, o) ∈ M j ∨ (H' a = some o ∧ F' a = none ∧ H a = none)) → Q vs H')
theorem FrM.pe {j : Nat} (h : FrM X W ρ e j t) : PE X e (tFrM X ρ j t) := ⟨fun pins s σ H Q I ⟨F, M, ok, h1⟩ => h pins s σ F H M Q I ok h1⟩
theorem FrMA.pa {j : Nat} {ts : List T} (h : FrMA X W ρ es j ts) : PA X es (tFrMA X ρ j ts) := ⟨fun pos pins s σ H Q I ⟨F, M, ok, h1⟩ => h pos pins s σ F H M Q I ok h1⟩
theorem FrT.m {j : Nat} (h : FrT X W ρ e t) : FrM X W ρ e j t := fun pins s σ F H M Q I ok q => h pins s σ F H M Q I ok fun v F' H' m x o hm => q v F' H' m x o fun a o z => .inr (hm a o z)
theorem FrTA.m {j : Nat} {ts : List T} (h : FrTA X W ρ es ts) : FrMA X W ρ es j ts := fun pos pins s σ F H M Q I ok q => h pos pins s σ F H M Q I ok fun v F' H' m x o hm => q v F' H' m x o fun a o z => .inr (hm a o z)
/-- the part itself moves -/
theorem nd_m {j : Nat} {u : T} (h : Nd X W ρ e j π) (hj : ρ[j]? = some (some (tr t))) (hπ : t.at? π = some u) : FrM X W ρ e j u := fun pins s σ F H M Q I ok q => h pins s σ F H M Q I ok fun r v F' H' er x nv => by
  obtain ⟨r', er', z⟩ := ok.at_ j _ hj
  rw [er] at er'; cases er'
  obtain ⟨w, m1, n1, o1, sub⟩ := OT.get z (fun a o z => (ok.own j a o z).1) hπ
  have ev := NodeV.inj (n1.same x.h) nv
  subst ev
  exact q _ F' H' m1 x (OT.mono x.f _ _ _ o1) fun a o z => .inl (sub _ z)
theorem ma_cons {j : Nat} {u : T} (ha : FrT X W ρ e u) (hr : FrMA X W ρ es j ts) (hs : starEach (e :: es) X.env = (false, eval e X.env) :: starEach es X.env := by rfl) : FrMA X W ρ (e :: es) j (u :: ts) :=
  fun pos pins s σ F H M Q I ok h => (pa_cons ha.pe hr.pa hs).run pos pins s σ H Q I ⟨F, M, ok, fun v F1 H1 m1 x1 h1 q1 => ⟨F1, M, ok.ext x1, fun vs F2 H2 m2 x2 h2 q2 => by
    have k1 := ot_keep x2 fun a o z => ⟨(q1 a o z).1, (q1 a o z).2.1⟩
    refine h (v :: vs) F2 H2 (m1 ++ m2) (x1.trans x2) (.cons (OT.mono x2.f _ _ _ h1) h2 fun b o o' z1 z2 => ?_) fun b o hm => ?_
    · have y := (q1 b o z1)
      rcases q2 b o' z2 with z | z
      · have w := (ok.own j b o' z).1
        rw [y.2.2] at w; cases w
      · have w := y.1
        rw [z.2.2] at w; cases w
    · rcases List.mem_append.mp hm with z | z
      · exact .inr ⟨(k1 b o z).1, (k1 b o z).2, (q1 b o z).2.2⟩
      · rcases q2 b o z with y | y
        · exact .inl y
        · exact .inr ⟨y.1, y.2.1, x1.h.free y.2.2⟩⟩⟩
theorem ma_one {j : Nat} {u : T} (ha : FrM X W ρ e j u) (hr : FrTA X W ρ es ts) (hs : starEach (e :: es) X.env = (false, eval e X.env) :: starEach es X.env := by rfl) : FrMA X W ρ (e :: es) j (u :: ts) :=
  fun pos pins s σ F H M Q I ok h => (pa_cons ha.pe hr.pa hs).run pos pins s σ H Q I ⟨F, M, ok, fun v F1 H1 m1 x1 h1 q1 => ⟨F1, M, ok.ext x1, fun vs F2 H2 m2 x2 h2 q2 => by
    refine h (v :: vs) F2 H2 (m1 ++ m2) (x1.trans x2) (.cons (OT.mono x2.f _ _ _ h1) h2 fun b o o' z1 z2 => ?_) fun b o hm => ?_
    · have y := (q2 b o' z2).2.2
      rcases q1 b o z1 with z | z
      · have w := x1.h _ _ (ok.own j b o z).1
        rw [y] at w; cases w
      · have w := z.1
        rw [y] at w; cases w
    · rcases List.mem_append.mp hm with z | z
      · rcases q1 b o z with y | y
        · exact .inl y
        · have k1 := ot_keep (m := [(b, o)]) x2 (fun a o' z => by
            have e : (a, o') = (b, o) := by simpa using z
            cases e; exact ⟨y.1, y.2.1⟩) b o (by simp)
          exact .inr ⟨k1.1, k1.2, y.2.2⟩
      · obtain ⟨y1, y2, y3⟩ := q2 b o z
        exact .inr ⟨y1, y2, x1.h.free y3⟩⟩⟩
theorem m_tup {j kk : Nat} (ha : FrMA X W ρ es j ts) (c : ts.length ≤ sizeLine := by exact PV.small (by simp)) : FrM X W ρ (.Tuple es kk pos) j (.tup none ts) :=
  fun pins s σ F H M Q I ok h => (pe_tup ha.pa).run pins s σ H Q I ⟨F, M, ok, fun vs F1 H1 m x1 o1 q1 => ⟨by rw [o1.len]; exact c, fun l hl => by
    have y := Ext.beside (o := .tup vs) x1.sub hl
    have nl : ∀ o, (l, o) ∉ m := fun o z => by
      rcases q1 l o z with w | w
      · have := x1.h _ _ (ok.own j l o w).1
        rw [hl] at this; cases this
      · rw [hl] at w; cases w.1
    refine h _ F1 _ ((l, .tup vs) :: m) (x1.trans y) (.tup (fun _ z => nomatch z) o1 nl) fun b o hm => ?_
    rcases List.mem_cons.mp hm with z | z
    · cases z
      exact .inr ⟨upd_same, x1.sub.free hl, x1.h.free hl⟩
    · rcases q1 b o z with w | w
      · exact .inl w
      · exact .inr ⟨y.h _ _ w.1, w.2⟩⟩⟩
/-- e[:b] of a list that moves -/
theorem m_cut {j : Nat} {hi : Option Expr} {u : Option Int} {p2 : Pos} (hn : Nd X W ρ e j π) (hj : ρ[j]? = some (some (tr t))) (hπ : t.at? π = some (.lst l ts)) (hu : EvO X W ρ hi u) : FrM X W ρ (.Subscript e (.Slice none hi none p2) pos) j (.lst none (ts.take (HT.sIx ts.length ts.length u))) :=
  fun pins s σ F H M Q I ok h => (pe_slice sl_list hn.pe (EvO.po (o := none) (W := W) (by exact trivial)) hu.po).run pins s σ H Q I ⟨F, M, ok, fun r v F1 H1 er x1 nv => ⟨F1, M, ok.ext x1, fun F2 H2 x2 => ⟨F2, M, (ok.ext x1).ext x2, fun F3 H3 x3 => by
    obtain ⟨r', er', z⟩ := ok.at_ j _ hj
    rw [er] at er'; cases er'
    obtain ⟨w, m1, n1, o1, sub⟩ := OT.get z (fun a o z => (ok.own j a o z).1) hπ
    have ev := NodeV.inj (n1.same x1.h) nv
    subst ev
    cases o1 with
    | @lst a' _ vs _ m2 z1 z2 z3 =>
      have hH : H a' = some (.lst vs) := (ok.own j _ _ (sub _ List.mem_cons_self)).1
      have x := (x1.trans x2).trans x3
      refine ⟨a', vs, rfl, .of (x.h _ _ hH), fun q hq => ?_⟩
      have y := Ext.beside (o := .lst (cutV vs none u)) x3.sub hq
      have w : cutV vs none u = vs.take (HT.sIx ts.length ts.length u) := by
        unfold cutV
        rw [z2.len]
        simp [HT.sIx]
      obtain ⟨m', q1, q2⟩ := OTs.take (HT.sIx ts.length ts.length u) z2
      rw [w] at y ⊢
      refine h _ F3 _ ((q, .lst (vs.take (HT.sIx ts.length ts.length u))) :: m') (x.trans y) (.lst (fun _ z => nomatch z) (OTs.mono x.f _ _ _ q1) fun o zz => ?_) fun b o hm => ?_
      · have e := x.h _ _ (ok.own j _ _ (sub _ (List.mem_cons_of_mem _ (q2 _ zz)))).1
        rw [hq] at e; cases e
      · rcases List.mem_cons.mp hm with zz | zz
        · cases zz
          exact .inr ⟨upd_same, x3.sub.free hq, x.h.free hq⟩
        · exact .inl (sub _ (List.mem_cons_of_mem _ (q2 _ zz)))⟩⟩⟩
/-- what the name j owned is forgotten -/
theorem PInv.drop {K : PySem.W.Frag} {B F0 F H : Hp} {σ : St} {M : Nat → Mini} (j : Nat) (x : PInv K B F0 ρ F σ H M) : PInv K B F0 (ρ.set j none) F σ H (upM M j []) where
  ok := by
    refine ⟨by rw [List.length_set]; exact x.ok.len, x.ok.sub, fun i S h => ?_, fun i a o h => ?_, fun i k a o o' h h' => ?_⟩
    · by_cases hi : i = j
      · subst hi
        by_cases hl : i < ρ.length
        · rw [List.getElem?_set_self hl] at h; cases h
        · rw [List.getElem?_eq_none (by simpa using hl)] at h; cases h
      · rw [List.getElem?_set_ne (Ne.symm hi)] at h
        obtain ⟨v, h1, h2⟩ := x.ok.at_ i S h
        exact ⟨v, h1, by rw [upM_ne hi]; exact h2⟩
    · by_cases hi : i = j
      · subst hi; rw [upM_same] at h; cases h
      · rw [upM_ne hi] at h; exact x.ok.own i a o h
    · by_cases hi : i = j
      · subst hi; rw [upM_same] at h; cases h
      · by_cases hk : k = j
        · subst hk; rw [upM_same] at h'; cases h'
        · rw [upM_ne hi] at h; rw [upM_ne hk] at h'; exact x.ok.apart i k a o o' h h'
  base := x.base
  f0 := x.f0
  nb := x.nb
  mb := fun i a o h => by
    by_cases hi : i = j
    · subst hi; rw [upM_same] at h; cases h
    · rw [upM_ne hi] at h; exact x.mb i a o h
/-- what a move brings, seen from the others -/
theorem PInv.moved {K : PySem.W.Frag} {B F0 F H F' H' : Hp} {σ : St} {M : Nat → Mini} {j : Nat} {m : Mini} (x : PInv K B F0 ρ F σ H M) (y : Ext F H F' H') (hm : ∀ a o, (a, o) ∈ m → (a, o) ∈ M j ∨ (H' a = some o ∧ F' a = none ∧ H a = none)) :
    ∀ a o, (a, o) ∈ m → H' a = some o ∧ F' a = none ∧ B a = none ∧ ∀ (i : Nat) (o' : HO), i ≠ j → (a, o') ∉ M i := fun a o z => by
  rcases hm a o z with w | w
  · have k1 := (x.ok.ext y).own j a o w
    exact ⟨k1.1, k1.2, x.mb j a o w, fun i o' hi h => hi (x.ok.apart i j a o' o h w)⟩
  · refine ⟨w.1, w.2.1, x.base.free w.2.2, fun i o' hi h => ?_⟩
    have := (x.ok.own i a o' h).1
    rw [w.2.2] at this; cases this
/-- x = e, e made of what j owned -/
theorem sxs_setM (i j : Nat) {x : Str} {pos' : Pos} (he : FrM X W ρ e j t) (k : Sxs X W rest ((ρ.set j none).set i (some (tr t))) Φ) (hN : X.N.Nodup)
    (hi : X.N[i]? = some x := by rfl) (hx : Loc X.env.scope x := by first | exact Or.inl rfl | exact Or.inr rfl) (hs : swapsWith e (some (.Name x pos')) pos.line X.env = pure false := by rfl)
    (hf : X.fn x = true ∨ X.env.scope.names.lookup x = some .local := by first | exact .inl rfl | exact .inr rfl) : Sxs X W (.Assign [.Name x pos'] e pos :: rest) ρ Φ :=
  sxs_of (ps_set hN hi hx he.pe hs hf) fun σ F H M B F0 D ok q => ⟨F, M, ok.ok, fun v F' H' m x1 hv hm => by
    have hm' := ok.moved x1 hm
    have ok' := (ok.ext x1).drop j
    refine ⟨_, Φ, F', _, B, F0, k, ok'.set hv fun a o z => ⟨(hm' a o z).1, (hm' a o z).2.1, (hm' a o z).2.2.1, fun i' o' hi' h => ?_⟩, q⟩
    by_cases hj : i' = j
    · subst hj; rw [upM_same] at h; cases h
    · rw [upM_ne hj] at h; exact (hm' a o z).2.2.2 i' o' hj h⟩
/-- e.append(d), d made of what i owned -/
theorem sxs_appendM (j i : Nat) {pa : Pos} {u : T} (hij : j ≠ i) (hj : ρ[j]? = some (some (tr t))) (hn : Nd X W ρ e j π) (hπ : t.at? π = some (.lst l ts)) (hd : FrM X W ρ d i u) (c : ts.length < sizeLine) (k : Sxs X W rest ((ρ.set i none).set j (some (tr (t.put π (.lst l (ts ++ [u])))))) Φ)
    (hp : ∀ t u, PE X e t → PE X d u → PE X (.Call (.Attribute e "append" pa) [d] [] p) (tBM X.K "list" rAppend t (tCons u tNil)) := by exact fun t u h h' => pe_bm PySem.F.plainAttrs_list PySem.F.slot_list_append PySem.F.type_list_append mt_append h (pa_cons h' pa_nil))
    (hs : swapsWith (.Call (.Attribute e "append" pa) [d] [] p) none pos.line X.env = pure false := by rfl) : Sxs X W (.Expr (.Call (.Attribute e "append" pa) [d] [] p) pos :: rest) ρ Φ :=
  sxs_of (ps_expr (hp _ _ hn.pe hd.pe) hs) fun σ F H M B F0 D ok q => ⟨F, M, ok.ok, fun r v F1 H1 er x1 nv => by
    obtain ⟨a, vs, m1, rfl, ha, o1, _, _, _⟩ := ok.mutT hj hπ er x1 nv
    refine ⟨ty_lst ha, F1, M, (ok.ext x1).ok, fun w F2 H2 m x2 hw hm => ?_⟩
    have x := x1.trans x2
    have hmv := (ok.ext x1).moved x2 hm
    have hσj : σ[j]? = some (some r) := er
    -- the tree at j: what it owns, and the list within
    obtain ⟨r', er', z0⟩ := ok.ok.at_ j _ hj
    rw [er] at er'; cases er'
    have hmj : ∀ a o, (a, o) ∈ M j → H a = some o := fun a o z => (ok.ok.own j a o z).1
    have z' : OT X.K F2 r t (M j) := OT.mono x.f _ _ _ z0
    obtain ⟨a', vs', mm, k1, k2, k3, k4, k5, k6, g7⟩ := OT.mut z' hπ
    have ev := NodeV.inj (((k6 H hmj).same x1.h)) nv
    cases ev
    have nm : ∀ b o, (b, o) ∈ m → ∀ o', (b, o') ∉ M j := fun b o hb o' hz => (hmv b o hb).2.2.2 j o' hij hz
    obtain ⟨m', s1, s2⟩ := g7 l (vs' ++ [w]) (ts ++ [u]) (mm ++ m) k2 (OTs.app k3 (OTs.one hw) fun b o o' z1 z2 => nm b o' z2 o (k4 _ z1)) fun b o hb => by
      rcases List.mem_append.mp hb with z | z
      · exact ⟨fun e => by subst e; exact k5 _ z, .inl z⟩
      · exact ⟨fun e => by subst e; exact nm _ o z _ k1, .inr (nm b o z)⟩
    have okd := ((ok.ext x1).ext x2).drop i
    have hj' : (ρ.set i none)[j]? = some (some (tr t)) := by rw [List.getElem?_set_ne (Ne.symm hij)]; exact hj
    have k1' : (a, HO.lst vs') ∈ upM M i [] j := by rw [upM_ne hij]; exact k1
    have ok' := okd.change (S' := tr (t.put π (.lst l (ts ++ [u])))) (m' := m') (o' := .lst (vs' ++ [w])) hj' er k1' s1 fun b o hb => by
      have other : ∀ (j' : Nat) (u' : HO), j' ≠ j → (b, u') ∈ upM M i [] j' → j' ≠ i ∧ (b, u') ∈ M j' := fun j' u' hne hz => by
        by_cases hi : j' = i
        · subst hi; rw [upM_same] at hz; cases hz
        · rw [upM_ne hi] at hz; exact ⟨hi, hz⟩
      rcases s2 b o hb with ⟨y1, y2⟩ | ⟨rfl, rfl⟩ | y
      · have w1 := ((ok.ext x1).ext x2).ok.own j b o y2
        exact ⟨by rw [upd_ne y1]; exact w1.1, w1.2, ok.mb j b o y2, fun j' u' hne hz => hne (ok.ok.apart j' j b u' o (other j' u' hne hz).2 y2)⟩
      · have w1 := ((ok.ext x1).ext x2).ok.own j _ _ k1
        exact ⟨upd_same, w1.2, ok.mb j _ _ k1, fun j' u' hne hz => hne (ok.ok.apart j' j _ u' _ (other j' u' hne hz).2 k1)⟩
      · rcases List.mem_append.mp y with y' | y'
        · have y2 := k4 _ y'
          have nb : b ≠ a := fun e => by subst e; exact k5 _ y'
          have w1 := ((ok.ext x1).ext x2).ok.own j b o y2
          exact ⟨by rw [upd_ne nb]; exact w1.1, w1.2, ok.mb j b o y2, fun j' u' hne hz => hne (ok.ok.apart j' j b u' o (other j' u' hne hz).2 y2)⟩
        · have nb : b ≠ a := fun e => by subst e; exact nm _ o y' _ k1
          obtain ⟨w1, w2, w3, w4⟩ := hmv b o y'
          exact ⟨by rw [upd_ne nb]; exact w1, w2, w3, fun j' u' hne hz => w4 j' u' (other j' u' hne hz).1 (other j' u' hne hz).2⟩
    have ha2 : H2 a = some (.lst vs') := x.h _ _ (hmj _ _ k1)
    exact ⟨a, vs', w, rfl, rfl, ha2, by rw [k3.len]; exact c, _, Φ, F2, _, B, F0, k, ok', q⟩⟩
end
end PV

/-! The pure-value layer: small helps for the walks. -/
namespace PV
open PySem PySem.Spec PyProof.Rows L2
theorem szl {n : Nat} (h : n ≤ 10000) : n ≤ sizeLine := Nat.le_trans h (by decide)
theorem szl' {n : Nat} (h : n < 10000) : n < sizeLine := Nat.lt_of_lt_of_le h (by decide)
theorem nums_of {n i : Nat} {d : PyData} (h : (nums 0 n)[i]? = some d) : i < n ∧ d = .int i := by
  have hl := (List.getElem?_eq_some_iff.mp h).1
  rw [nums_length] at hl
  rw [nums_get n 0 i hl] at h
  exact ⟨hl, by have := Option.some.inj h; rw [← this]; simp⟩
theorem atI_map {α : Type} (f : α → PyData) {xs : List α} {n : Nat} {d : α} (h : xs[n]? = some d) : atI (xs.map f) (n : Int) = some (f d) := atI_nat (by rw [List.getElem?_map, h]; rfl)
theorem enums_of {ds : List PyData} {i : Nat} {d : PyData} (h : (enums 0 ds)[i]? = some d) : ∃ e, ds[i]? = some e ∧ d = .tuple [.int i, e] := by
  have hl := (List.getElem?_eq_some_iff.mp h).1
  rw [enums_length] at hl
  have h1 : ds[i]? = some ds[i] := List.getElem?_eq_getElem hl
  refine ⟨_, h1, ?_⟩
  rw [enums_get ds 0 i _ h1] at h
  have := Option.some.inj h
  rw [← this]; simp
theorem rep_one {α : Type} (f : α → PyData) (a : α) : ∀ n : Nat, (List.replicate n [f a]).flatten = (List.replicate n a).map f
  | 0 => rfl
  | n + 1 => by rw [List.replicate_succ, List.flatten_cons, rep_one f a n, List.replicate_succ, List.map_cons]; rfl
theorem cut_map {α : Type} (f : α → PyData) (xs : List α) (lo hi : Option Int) : cutD (xs.map f) lo hi = ((xs.drop (HT.sIx xs.length 0 lo)).take (HT.sIx xs.length xs.length hi - HT.sIx xs.length 0 lo)).map f := by
  unfold cutD
  rw [List.length_map, ← List.map_drop, ← List.map_take]
theorem ixN_nat {n k : Nat} (h : k < n) : ixN n (k : Int) = some k := by
  unfold ixN
  rw [if_pos (by omega), if_pos (by omega)]
  rfl
theorem wkl_nil : WkL [] [] := trivial
theorem wkl_none {x : Option Slot} {a b : Env} (h : WkL a b) : WkL (x :: a) (none :: b) := by cases x <;> exact h
theorem wkl_some {x : Option Slot} {S : Slot} {a b : Env} (e : x = some S) (h : WkL a b) : WkL (x :: a) (some S :: b) := by
  cases x with
  | none => cases e
  | some S' => exact ⟨e, h⟩
theorem brw_trD {t : T} {d : PyData} (h : t.er = d) : Brw (tr t) (fz d) := h ▸ brw_tr
theorem at_set {l : Option Addr} {us : List T} {n : Nat} {v : T} {π : List Nat} (h : n < us.length) : (T.lst l (us.set n v)).at? (n :: π) = v.at? π := by
  simp only [T.at?, List.getElem?_set_self h]
theorem put_set {l : Option Addr} {us : List T} {n : Nat} {v u : T} {π : List Nat} (h : n < us.length) : (T.lst l (us.set n v)).put (n :: π) u = .lst l (us.set n (v.put π u)) := by
  simp only [T.put, List.getElem?_set_self h, List.set_set]
theorem er_fz (d : PyData) : (T.fz d).er = d := by rw [T.er]
theorem er_lst (l : Option Addr) (ts : List T) : (T.lst l ts).er = .list (ts.map T.er) := by rw [T.er, ers_map]
theorem er_tup (l : Option Addr) (ts : List T) : (T.tup l ts).er = .tuple (ts.map T.er) := by rw [T.er, ers_map]
theorem map_fz (ds : List PyData) : (ds.map T.fz).map T.er = ds := by
  rw [List.map_map]
  refine (List.map_congr_left fun d _ => ?_).trans (List.map_id ds)
  exact er_fz d
theorem map_er {α : Type} (f : α → T) (g : α → PyData) (h : ∀ a, (f a).er = g a) (xs : List α) : (xs.map f).map T.er = xs.map g := by
  rw [List.map_map]
  exact List.map_congr_left fun a _ => h a
theorem lst_er {α : Type} (l : Option Addr) (f : α → T) (g : α → PyData) (h : ∀ a, (f a).er = g a) (xs : List α) : (T.lst l (xs.map f)).er = .list (xs.map g) := by
  rw [er_lst, map_er f g h]
theorem map_strs_inj {xs ys : List Str} (h : xs.map PyData.str = ys.map PyData.str) : xs = ys := by
  induction xs generalizing ys with
  | nil => cases ys with | nil => rfl | cons => cases h
  | cons x xs ih =>
    cases ys with
    | nil => cases h
    | cons y ys =>
      rw [List.map_cons, List.map_cons, List.cons.injEq, PyData.str.injEq] at h
      rw [h.1, ih h.2]
theorem scs_all {α : Type} (f : α → T) (h : ∀ a, (f a).sc = true) : ∀ xs : List α, T.sc.T.scs (xs.map f) = true
  | [] => by simp [T.sc.T.scs]
  | x :: xs => by rw [List.map_cons, T.sc.T.scs, h x, scs_all f h xs]; rfl
theorem sc_lst {l : Option Addr} {ts : List T} (h : T.sc.T.scs ts = true) : (T.lst l ts).sc = true := by rw [T.sc]; exact h
theorem sc_tup {l : Option Addr} {ts : List T} (h : T.sc.T.scs ts = true) : (T.tup l ts).sc = true := by rw [T.sc]; exact h
theorem scs_nil : T.sc.T.scs [] = true := by simp [T.sc.T.scs]
theorem scs_cons {t : T} {ts : List T} (h : t.sc = true) (h2 : T.sc.T.scs ts = true) : T.sc.T.scs (t :: ts) = true := by rw [T.sc.T.scs, h, h2]; rfl
theorem sc_fz {d : PyData} (h : scalar d = true := by rfl) : (T.fz d).sc = true := by rw [T.sc]; exact h
section
variable {X : Cx} {W : Wc} {ρ : Env} {a b : Expr} {pos p : Pos}
/-- x is not None, x holds where something stands -/
theorem cm_notN_adr (i : Nat) {x : Str} {pos : Pos} {l : Addr} {j pos'} (hd : ρ[i]? = some (some (adr l))) (hN : X.N[i]? = some x := by rfl) (hv : Vis X.env.scope x := by first | exact Or.inl rfl | exact Or.inr (Or.inl rfl) | exact Or.inr (Or.inr rfl))
    (h1 : (x == ("__debug__" : Str)) = false := by decide) (h2 : (x == ("__classdict__" : Str)) = false := by decide) : Cm X W ρ .IsNot (.Name x pos) (.Constant .none j pos') true :=
  fun pins s σ F H M Q I ok h => (pc_notN (pe_var hN hv h1 h2)).run pins s σ H Q I (by
    obtain ⟨v, e, _, q⟩ := ok.at_ i _ hd
    subst q
    exact ⟨_, e, h F H (.refl ok.sub)⟩)
theorem cm_isN_adr (i : Nat) {x : Str} {pos : Pos} {l : Addr} {j pos'} (hd : ρ[i]? = some (some (adr l))) (hN : X.N[i]? = some x := by rfl) (hv : Vis X.env.scope x := by first | exact Or.inl rfl | exact Or.inr (Or.inl rfl) | exact Or.inr (Or.inr rfl))
    (h1 : (x == ("__debug__" : Str)) = false := by decide) (h2 : (x == ("__classdict__" : Str)) = false := by decide) : Cm X W ρ .Is (.Name x pos) (.Constant .none j pos') false :=
  fun pins s σ F H M Q I ok h => (pc_isN (pe_var hN hv h1 h2)).run pins s σ H Q I (by
    obtain ⟨v, e, _, q⟩ := ok.at_ i _ hd
    subst q
    exact ⟨_, e, h F H (.refl ok.sub)⟩)
/-- or of two tests, known by what they tell -/
theorem tst_or2 {p q r : Bool} (h : Tst X W ρ a p) (h2 : p = false → Tst X W ρ b q) (e : r = (p || q)) : Tst X W ρ (.BoolOp .Or [a, b] pos) r := by
  rw [e]
  exact Tws.tst (tw_or h fun z => tw_or1 (h2 z))
theorem tst_and2 {p q r : Bool} (h : Tst X W ρ a p) (h2 : p = true → Tst X W ρ b q) (e : r = (p && q)) : Tst X W ρ (.BoolOp .And [a, b] pos) r := by
  rw [e]
  exact Tws.tst (tw_and h fun z => tw_and1 (h2 z))
theorem Tst.to {p q : Bool} (h : Tst X W ρ a p) (e : p = q) : Tst X W ρ a q := e ▸ h
theorem Rv.to {d e : PyData} (h : Rv X W ρ a d) (q : d = e) : Rv X W ρ a e := q ▸ h
theorem evo {i : Int} (h : Ev X W ρ a (.int i)) : EvO X W ρ (some a) (some i) := h
theorem evo_n : EvO X W ρ none none := trivial
theorem Fr.to {ds es : List PyData} (h : Fr X W ρ a ds) (q : ds = es) : Fr X W ρ a es := q ▸ h
theorem FrT.to {t u : T} (h : FrT X W ρ a t) (q : t = u) : FrT X W ρ a u := q ▸ h
theorem Bw.to {ds es : List PyData} (h : Bw X W ρ a ds) (q : ds = es) : Bw X W ρ a es := q ▸ h
theorem Ev.to {d e : PyData} (h : Ev X W ρ a d) (q : d = e) : Ev X W ρ a e := q ▸ h
end
end PV

/-! The pure-value layer: the end of a law. -/
namespace PV
open PySem PySem.Spec PyProof.Rows L2
/-- a def as a datum -/
def dd (x : Str) (st : Stmt) : He.DefD := ⟨(x, none), x, x, defArgs st, defBody st, defScope st, [], []⟩
section
variable {K : PySem.W.Frag} {mg : Str → Option Value} {h : Heap} {fa : List He.Fa} {fn : List He.DefD}
theorem df_of (X : K.In h) (G : h.Ns mainGlobals mg) (c : He.SaysD fa fn K) (i j : Nat) {x : Str} {st : Stmt} (h1 : fn[i]? = some (dd x st) := by rfl) (h2 : fa[j]? = some (.glo x) := by rfl) : Df K mg x st := by
  obtain ⟨fd, F⟩ := c.def_ i h1
  obtain ⟨oc, od, dV, kV, doc, pm, an, cdv, ct, osl, e, lk, hc, hD, hK⟩ := F.ex
  have hd : dV = .none := by
    rcases hD with ⟨_, z⟩ | ⟨z, _⟩
    · exact z
    · exact absurd rfl z
  subst hd
  exact ⟨_, fd, ⟨⟨oc, od, kV, doc, pm, an, cdv, ct, osl, e, lk, hc⟩, F.kp⟩, He.glo_ok X G (c.fact j h2)⟩
/-- the names of built-ins that the module leaves alone -/
def bltFa : List He.Fa := [.free "len", .free "range", .free "max", .free "min", .free "enumerate", .free "zip", .free "isinstance", .free "list", .free "dict", .free "int", .free "str", .free "bool", .free "tuple", .free "sum", .free "any", .free "all", .free "sorted"]
theorem blt_of {rest : List He.Fa} (X : K.In h) (G : h.Ns mainGlobals mg) (c : He.SaysD (bltFa ++ rest) fn K) : Blt mg where
  len := He.free_ok X G (c.fact 0 rfl)
  range := He.free_ok X G (c.fact 1 rfl)
  max := He.free_ok X G (c.fact 2 rfl)
  min := He.free_ok X G (c.fact 3 rfl)
  enumerate := He.free_ok X G (c.fact 4 rfl)
  zip := He.free_ok X G (c.fact 5 rfl)
  isinstance := He.free_ok X G (c.fact 6 rfl)
  list := He.free_ok X G (c.fact 7 rfl)
  dict := He.free_ok X G (c.fact 8 rfl)
  int := He.free_ok X G (c.fact 9 rfl)
  str := He.free_ok X G (c.fact 10 rfl)
  bool := He.free_ok X G (c.fact 11 rfl)
  tuple := He.free_ok X G (c.fact 12 rfl)
  sum := He.free_ok X G (c.fact 13 rfl)
  any := He.free_ok X G (c.fact 14 rfl)
  all := He.free_ok X G (c.fact 15 rfl)
  sorted := He.free_ok X G (c.fact 16 rfl)
end
/-- what a law promises: a list of ints comes in, True comes out -/
abbrev spLaw (K : PySem.W.Frag) (C : Ec → Addr) (pre : List Int → Prop) : Sp := spP K C 1 (fun ns : List Int => [kn (ns.map PyData.int)]) pre (fun _ => is (.ok (fz (.bool true))))
theorem spLaw_ok {K : PySem.W.Frag} {C : Ec → Addr} {pre : List Int → Prop} {H : Hp} {a : Addr} {ns : List Int} (hp : pre ns) (hS : SqL K H a (ns.map V.int)) : spLaw K C pre [.ref a] H (fun v _ => v = .bl true) fun _ _ _ => False :=
  ⟨ns, H, .refl _, rfl, .cons ⟨rfl, a, _, rfl, hS, ints_dqAll ns⟩ .nil, hp, fun S e v F' H' m x hv _ => by
    have e : S = fz (.bool true) := Except.ok.inj e
    subst e
    exact dq_bl hv.2, fun c e => nomatch e⟩
theorem law_end {l : PySem.W.OpenLaw} {most k : Nat} {q : Program} {loose : List Str} {XP : (Str → Option Value) → Heap → Prop} {YP : World → Heap → Prop} {d : DefRec} {pre : List Int → Prop} (e1 : l.most = some most) (e2 : most ≤ sizeLine) (e3 : d.params.defaults = []) (e4 : Room k callerA) (e5 : d.name = "law") (hp : ∀ ns : List Int, ns.length ≤ most → pre ns)
    (F : ∀ (w : World) (mg : Str → Option Value) (h : Heap), YP w h → h.Ns mainGlobals mg → ∃ (K : PySem.W.Frag) (C : Ec → Addr), K.In h ∧ ∀ base : Heap, CalleeP l.prog w K mg base k "law" ["script"] (spLaw K C pre)) : PySem.W.WalkO q loose XP YP l.row.toRowW d [] (fun f vs => PySem.call f vs) := by
  refine Att.attach_call e1 e3 fun w s0 s1 mg mb fa o pm cd doc a vs ns G Y ho hd hcd gl obj hints len hg => ?_
  obtain ⟨K, C, KX, L⟩ := F w mg _ Y G.T.g
  rw [e5] at gl
  obtain ⟨f0, fd0, ok0, g0, -, -, b0, oc0, od0, sl0, lk0⟩ := L default
  obtain rfl : fa = f0 := by
    have z := g0.symm.trans gl
    exact (Value.ref.inj (Option.some.inj z)).symm
  refine law_call (fd := fd0) KX G.T.g G.T.b G.T.builtins G.T.nolimit hg obj hints (Nat.le_trans len e2) e4 (CX := L2.CX l.prog w) (sp := spLaw K C pre) (fun base hb hn => ?_) (fun s v => b0 s [v] rfl)
    (fun H _ hS => spLaw_ok (hp ns len) hS) fun H e s' z => ?_
  · obtain ⟨f1, fd1, ok1, g1, -, -, -, oc1, od1, sl1, lk1⟩ := L base
    obtain rfl : fa = f1 := by
      have z := g1.symm.trans gl
      exact (Value.ref.inj (Option.some.inj z)).symm
    rw [lk0] at lk1
    cases lk1
    exact ok1
  · obtain ⟨_, _, _, _, _, _, _, _, _, _, _, _, z⟩ := z
    exact z
end PV

/-! The pure-value layer: dicts that a name owns. -/
namespace PV
open PySem PySem.Spec PyProof.Rows L2
def kD : Key → PyData
  | .inl i => .int i
  | .inr s => .str s
theorem dq_key {K : PySem.W.Frag} {F : Hp} {v : V} {k : Key} (h : Dq K F v (kD k)) : v = kV k := by
  cases k with
  | inl i => exact dq_int h
  | inr s => exact dq_str h
theorem dqAll_keys {K : PySem.W.Frag} {F : Hp} : ∀ {ks : List Key} {vs : List V}, DqAll K F vs (ks.map kD) → vs = ks.map kV
  | [], _, h => by cases h; rfl
  | k :: ks, _, h => by
    cases h with
    | cons h1 h2 => rw [dq_key h1, dqAll_keys h2, List.map_cons]
theorem dq_tkey {K : PySem.W.Frag} {F : Hp} {v : V} {k : List Key} (h : Dq K F v (.tuple (k.map kD))) : ∃ b, v = .ref b ∧ F b = some (.tup (k.map kV)) := by
  obtain ⟨a, vs, rfl, h1, h2⟩ := dq_tupH h
  rw [dqAll_keys h2] at h1
  exact ⟨a, rfl, h1⟩
section
variable {κ : Type} [DecidableEq κ]
def getP (kvs : List (κ × PyData)) (k : κ) : Option PyData := (kvs.find? fun kv => decide (kv.1 = k)).map (·.2)
def putP (kvs : List (κ × PyData)) (k : κ) (d : PyData) : List (κ × PyData) :=
  if (kvs.any fun kv => decide (kv.1 = k)) = true then kvs.map (fun kv => if kv.1 = k then (kv.1, d) else kv) else kvs ++ [(k, d)]
theorem getP_put : ∀ (kvs : List (κ × PyData)) (k j : κ) (d : PyData), getP (putP kvs k d) j = if j = k then some d else getP kvs j := by
  intro kvs k j d
  unfold putP
  split
  · rename_i hany
    induction kvs with
    | nil => simp at hany
    | cons p kvs ih =>
      by_cases hp : p.1 = k
      · rw [List.map_cons, if_pos hp]
        by_cases hj : j = k
        · subst hj
          simp [getP, hp]
        · have : ¬ p.1 = j := fun e => hj (e.symm.trans hp)
          have key : ∀ l : List (κ × PyData), getP (l.map fun kv => if kv.1 = k then (kv.1, d) else kv) j = getP l j := by
            intro l
            induction l with
            | nil => rfl
            | cons q l ihl =>
              unfold getP at ihl ⊢
              by_cases hq : q.1 = k
              · have hqj : ¬ q.1 = j := fun e => hj (e.symm.trans hq)
                rw [List.map_cons, if_pos hq, List.find?_cons, List.find?_cons]
                simp only [hqj, decide_false]
                exact ihl
              · rw [List.map_cons, if_neg hq, List.find?_cons, List.find?_cons]
                by_cases hqj : q.1 = j
                · simp [hqj]
                · simp only [hqj, decide_false]
                  exact ihl
          rw [if_neg hj]
          have e1 : getP ((p.1, d) :: kvs.map fun kv => if kv.1 = k then (kv.1, d) else kv) j = getP (kvs.map fun kv => if kv.1 = k then (kv.1, d) else kv) j := by
            unfold getP; rw [List.find?_cons]; simp [this]
          have e2 : getP (p :: kvs) j = getP kvs j := by unfold getP; rw [List.find?_cons]; simp [this]
          rw [e1, e2, key]
      · have h2 : (kvs.any fun kv => decide (kv.1 = k)) = true := by simpa [hp] using hany
        have ih := ih h2
        rw [List.map_cons, if_neg hp]
        by_cases hj : p.1 = j
        · have hjk : ¬ j = k := fun e => hp (hj.trans e)
          rw [if_neg hjk]
          unfold getP; rw [List.find?_cons, List.find?_cons]; simp [hj]
        · have e1 : ∀ l : List (κ × PyData), getP (p :: l) j = getP l j := fun l => by unfold getP; rw [List.find?_cons]; simp [hj]
          rw [e1, e1, ih]
  · rename_i hany
    have hno : ∀ p ∈ kvs, ¬ p.1 = k := fun p hp e => hany (List.any_eq_true.mpr ⟨p, hp, by simpa using e⟩)
    by_cases hj : j = k
    · subst hj
      rw [if_pos rfl]
      unfold getP
      rw [List.find?_append]
      have : kvs.find? (fun kv => decide (kv.1 = j)) = none := by
        rw [List.find?_eq_none]
        intro p hp
        simpa using hno p hp
      rw [this]
      simp
    · rw [if_neg hj]
      unfold getP
      rw [List.find?_append]
      have : [(k, d)].find? (fun kv : κ × PyData => decide (kv.1 = j)) = none := by
        rw [List.find?_eq_none]
        intro p hp
        have : p = (k, d) := by simpa using hp
        subst this
        simpa using fun e => hj e.symm
      rw [this]
      cases kvs.find? fun kv => decide (kv.1 = j) <;> rfl
theorem putP_len (kvs : List (κ × PyData)) (k : κ) (d : PyData) : (putP kvs k d).length ≤ kvs.length + 1 := by
  unfold putP
  split
  · rw [List.length_map]; omega
  · rw [List.length_append]; simp
/-- a dict's pairs, and the data that they stand for -/
def KvR (K : PySem.W.Frag) (F : Hp) : List (κ × V) → List (κ × PyData) → Prop := Paired fun p q => p.1 = q.1 ∧ Dq K F p.2 q.2
theorem KvR.mono {K : PySem.W.Frag} {F F' : Hp} (e : Same F F') : ∀ {ps : List (κ × V)} {qs : List (κ × PyData)}, KvR K F ps qs → KvR K F' ps qs
  | _, _, .nil => .nil
  | _, _, .cons h t => .cons ⟨h.1, dq_mono e _ _ h.2⟩ (KvR.mono e t)
theorem KvR.len {K : PySem.W.Frag} {F : Hp} {ps : List (κ × V)} {qs : List (κ × PyData)} (h : KvR K F ps qs) : ps.length = qs.length := Paired.length h
theorem KvR.get {K : PySem.W.Frag} {F : Hp} (k : κ) : ∀ {ps : List (κ × V)} {qs : List (κ × PyData)}, KvR K F ps qs → (valV ps k = none ∧ getP qs k = none) ∨ ∃ v d, valV ps k = some v ∧ getP qs k = some d ∧ Dq K F v d
  | _, _, .nil => .inl ⟨rfl, rfl⟩
  | p :: ps, q :: qs, .cons h t => by
    by_cases e : p.1 = k
    · refine .inr ⟨p.2, q.2, valV_pos e, ?_, h.2⟩
      have e' : q.1 = k := h.1 ▸ e
      simp [getP, e']
    · have e' : ¬ q.1 = k := h.1 ▸ e
      have g : getP (q :: qs) k = getP qs k := by simp [getP, e']
      rw [valV_neg e, g]
      exact KvR.get k t
theorem KvR.put {K : PySem.W.Frag} {F : Hp} (k : κ) {v : V} {d : PyData} (hv : Dq K F v d) {ps : List (κ × V)} {qs : List (κ × PyData)} (h : KvR K F ps qs) : KvR K F (putK ps k v) (putP qs k d) := by
  have e : (ps.any fun kv => decide (kv.1 = k)) = (qs.any fun kv => decide (kv.1 = k)) := by
    induction h with
    | nil => rfl
    | cons h t ih => rw [List.any_cons, List.any_cons, ih, h.1]
  unfold putK putP
  rw [e]
  split
  · clear e
    induction h with
    | nil => exact .nil
    | @cons p q ps qs h t ih =>
      have key : ∀ {ps : List (κ × V)} {qs : List (κ × PyData)}, KvR K F ps qs → KvR K F (ps.map fun kv => if kv.1 = k then (kv.1, v) else kv) (qs.map fun kv => if kv.1 = k then (kv.1, d) else kv) := by
        intro ps qs h
        induction h with
        | nil => exact .nil
        | @cons p q ps qs h t ih =>
          rw [List.map_cons, List.map_cons]
          refine .cons ?_ ih
          by_cases hp : p.1 = k
          · have hq : q.1 = k := h.1 ▸ hp
            rw [if_pos hp, if_pos hq]
            exact ⟨h.1, hv⟩
          · have hq : ¬ q.1 = k := h.1 ▸ hp
            rw [if_neg hp, if_neg hq]
            exact h
      exact key (.cons h t)
  · rename_i hn
    clear hn e
    induction h with
    | nil => exact .cons ⟨rfl, hv⟩ .nil
    | cons h t ih => exact .cons h ih
end
/-- dicts of keys that are numbers or texts, of keys that are tuples of such -/
def dk (kvs : List (Key × PyData)) : Slot := ⟨fun K F v m => ∃ a ps, v = .ref a ∧ m = [(a, .dK ps)] ∧ KvR K F ps kvs, fun _ _ _ _ _ e ⟨a, ps, h1, h2, h3⟩ => ⟨a, ps, h1, h2, h3.mono e⟩⟩
def dt (kvs : List (List Key × PyData)) : Slot := ⟨fun K F v m => ∃ a ps, v = .ref a ∧ m = [(a, .dT ps)] ∧ KvR K F ps kvs, fun _ _ _ _ _ e ⟨a, ps, h1, h2, h3⟩ => ⟨a, ps, h1, h2, h3.mono e⟩⟩
section
variable {X : Cx} {W : Wc} {ρ : Env} {e a b d : Expr} {es : List Expr} {pos p : Pos} {C : Ec → Addr} {k : Nat} {rest : List Stmt} {Φ : Out → Prop}
theorem Ctx.hu (c : Ctx X C W k) : X.A.units + 1 < cLine := hu_of c.room
/-- an expression that makes what a slot holds -/
def FrS (X : Cx) (W : Wc) (ρ : Env) (e : Expr) (S : Slot) : Prop :=
  ∀ (pins : List (Addr × Obj)) (s : Shared) (σ : St) (F H : Hp) (M : Nat → Mini) (Q : VK), Inv X pins σ H s → EOk X.K ρ F σ H M →
    (∀ v F' H' m, Ext F H F' H' → S.R X.K F' v m → (∀ a o, (a, o) ∈ m → H' a = some o ∧ F' a = none ∧ H a = none) → Q v H') →
    wpAny (model X.prog X.w) X.A (eval e X.env) (EP X pins σ Q) X.xe s
def tFrS (X : Cx) (ρ : Env) (S : Slot) : TE := fun σ H Q => ∃ F M, EOk X.K ρ F σ H M ∧ (∀ v F' H' m, Ext F H F' H' → S.R X.K F' v m → (∀ a o, (a, o) ∈ m → H' a = some o ∧ F' a = none ∧ H a = none) → Q v H')
theorem FrS.pe {S : Slot} (h : FrS X W ρ e S) : PE X e (tFrS X ρ S) := ⟨fun pins s σ H Q I ⟨F, M, ok, h1⟩ => h pins s σ F H M Q I ok h1⟩
theorem FrT.sl {t : T} (h : FrT X W ρ e t) : FrS X W ρ e (tr t) := h
theorem s_dk : FrS X W ρ (.Dict [] [] pos) (dk []) := fun pins s σ F H M Q I ok h => pe_dnewK.run pins s σ H Q I fun p hp =>
  h _ F _ [(p, .dK [])] (.beside ok.sub hp) ⟨p, [], rfl, rfl, .nil⟩ fun a o z => by
    have z : (a, o) = (p, HO.dK []) := by simpa using z
    cases z
    exact ⟨upd_same, ok.sub.free hp, hp⟩
theorem s_dt : FrS X W ρ (.Dict [] [] pos) (dt []) := fun pins s σ F H M Q I ok h => pe_dnewT.run pins s σ H Q I fun p hp =>
  h _ F _ [(p, .dT [])] (.beside ok.sub hp) ⟨p, [], rfl, rfl, .nil⟩ fun a o z => by
    have z : (a, o) = (p, HO.dT []) := by simpa using z
    cases z
    exact ⟨upd_same, ok.sub.free hp, hp⟩
/-- x = e -/
theorem sxs_setS (i : Nat) {x : Str} {pos' : Pos} {S : Slot} (he : FrS X W ρ e S) (k : Sxs X W rest (ρ.set i (some S)) Φ) (hN : X.N.Nodup)
    (hi : X.N[i]? = some x := by rfl) (hx : Loc X.env.scope x := by first | exact Or.inl rfl | exact Or.inr rfl) (hs : swapsWith e (some (.Name x pos')) pos.line X.env = pure false := by rfl)
    (hf : X.fn x = true ∨ X.env.scope.names.lookup x = some .local := by first | exact .inl rfl | exact .inr rfl) :
    Sxs X W (.Assign [.Name x pos'] e pos :: rest) ρ Φ :=
  sxs_of (ps_set hN hi hx he.pe hs hf) fun σ F H M B F0 D ok q => ⟨F, M, ok.ok, fun v F' H' m x hv hm => by
    have y : PInv X.K B F0 (ρ.set i (some S)) F' (σ.set i (some v)) H' (upM M i m) := (ok.ext x).set hv fun a o z => by
      obtain ⟨y1, y2, y3⟩ := hm a o z
      refine ⟨y1, y2, ok.base.free y3, fun j o' hj hm' => ?_⟩
      have w := (ok.ok.own j a o' hm').1
      rw [y3] at w; cases w
    exact ⟨_, Φ, F', _, B, F0, k, y, q⟩⟩
theorem s_call {ι : Type} {n : Nat} {ins : ι → List Slot} {pre : ι → Prop} {r : ι → Except Ec Slot → Prop} {x : Str} {j : Nat} {S : Slot} (c : Ctx X C W k) (G : Callee X.prog X.w X.K X.mg X.base j x (spP X.K C n ins pre r)) (i : ι) (hp : pre i) (hr : ∀ o, r i o → o = .ok S) (ha : EvAS X W ρ (e :: es) (ins i)) (hj : j ≤ k := by decide) (hn : (ins i).length = n := by rfl)
    (hg : Gl X x := by rfl) (hdb : (x == ("__debug__" : Str)) = false := by decide) (he : starEach (e :: es) X.env = (false, eval e X.env) :: starEach es X.env := by rfl) (hpl : (backTo pos (starEach es X.env)).any (·.1) = false := by rfl) : FrS X W ρ (.Call (.Name x p) (e :: es) [] pos) S :=
  fun pins s σ F H M Q I ok h1 => call_any c G hj i hp ha hn hg hdb he hpl pins s σ F H M Q I ok (fun S' hS v F' H' m x2 hv hm => by
    have e : S' = S := Except.ok.inj (hr _ hS)
    subst e
    exact h1 v F' H' m x2 hv hm) fun c hc F' H' x2 => nomatch hr _ hc
/-! ### what is read of a dict -/
/-- e holds the dict that the name i owns; gk tells what stands at a key y -/
def DcAt (X : Cx) (ρ : Env) (i : Nat) (y : PyData) (o : Option PyData) : Prop :=
  ∀ (σ : St) (F H : Hp) (M : Nat → Mini), EOk X.K ρ F σ H M → ∃ a, σ[i]? = some (some (.ref a)) ∧ IsD H a ∧ ∀ F' H' v, Ext F H F' H' → Dq X.K F' v y → (o = none ∧ DGet H' a v none) ∨ ∃ u d, o = some d ∧ DGet H' a v (some u) ∧ Dq X.K F' u d
theorem dc_k (i : Nat) {kvs : List (Key × PyData)} (y : Key) (h : ρ[i]? = some (some (dk kvs))) : DcAt X ρ i (kD y) (getP kvs y) := fun σ F H M ok => by
  obtain ⟨v, e, a, ps, rfl, hm, r⟩ := ok.at_ i _ h
  have hH : H a = some (.dK ps) := (ok.own i a _ (by rw [hm]; exact List.mem_cons_self)).1
  refine ⟨a, e, .inl ⟨ps, .of hH⟩, fun F' H' v x dv => ?_⟩
  have hg : DGet H' a (kV y) (valV ps y) := DGet.k (x.h _ _ hH)
  rw [dq_key dv]
  rcases r.get y with ⟨h1, h2⟩ | ⟨u, d, h1, h2, h3⟩
  · rw [h1] at hg; exact .inl ⟨h2, hg⟩
  · rw [h1] at hg; exact .inr ⟨u, d, h2, hg, dq_mono x.f _ _ h3⟩
theorem dc_t (i : Nat) {kvs : List (List Key × PyData)} (y : List Key) (h : ρ[i]? = some (some (dt kvs))) : DcAt X ρ i (.tuple (y.map kD)) (getP kvs y) := fun σ F H M ok => by
  obtain ⟨v, e, a, ps, rfl, hm, r⟩ := ok.at_ i _ h
  have hH : H a = some (.dT ps) := (ok.own i a _ (by rw [hm]; exact List.mem_cons_self)).1
  refine ⟨a, e, .inr ⟨ps, .of hH⟩, fun F' H' v x dv => ?_⟩
  obtain ⟨b, rfl, hb⟩ := dq_tkey dv
  have hg : DGet H' a (.ref b) (valV ps y) := DGet.t (x.h _ _ hH) (x.sub _ _ hb)
  rcases r.get y with ⟨h1, h2⟩ | ⟨u, d, h1, h2, h3⟩
  · rw [h1] at hg; exact .inl ⟨h2, hg⟩
  · rw [h1] at hg; exact .inr ⟨u, d, h2, hg, dq_mono x.f _ _ h3⟩
variable {i : Nat} {y : PyData} {o : Option PyData} {x : Str} {px : Pos}
/-- x[b] -/
theorem ev_dget {d : PyData} (c : Ctx X C W k) (hd : DcAt X ρ i y (some d)) (hb : Ev X W ρ b y) (hs : NoSl b := by exact fun _ _ => rfl) (hN : X.N[i]? = some x := by rfl) (hv : Vis X.env.scope x := by first | exact Or.inl rfl | exact Or.inr (Or.inl rfl) | exact Or.inr (Or.inr rfl))
    (h1 : (x == ("__debug__" : Str)) = false := by decide) (h2 : (x == ("__classdict__" : Str)) = false := by decide) : Ev X W ρ (.Subscript (.Name x px) b pos) d :=
  ev1_of (pe_dget c.hu (pe_var hN hv h1 h2) hb.pe hs) fun σ F H M Q ok h => by
    obtain ⟨a, e, _, g⟩ := hd σ F H M ok
    refine ⟨_, e, rd ok fun v F1 H1 x1 dv => ?_⟩
    rcases g F1 H1 v x1 dv with ⟨z, _⟩ | ⟨u, d', z, g, du⟩
    · cases z
    · cases z
      exact ⟨a, u, rfl, g, h u F1 H1 x1 du⟩
/-- b in x -/
theorem cm_inDc (c : Ctx X C W k) (hb : Ev X W ρ b y) (hd : DcAt X ρ i y o) (hN : X.N[i]? = some x := by rfl) (hv : Vis X.env.scope x := by first | exact Or.inl rfl | exact Or.inr (Or.inl rfl) | exact Or.inr (Or.inr rfl))
    (h1 : (x == ("__debug__" : Str)) = false := by decide) (h2 : (x == ("__classdict__" : Str)) = false := by decide) : Cm X W ρ .In b (.Name x px) o.isSome :=
  fun pins s σ F H M Q I ok h => (pc_din c.hu hb.pe (pe_var hN hv h1 h2)).run pins s σ H Q I (rd ok fun v F1 H1 x1 dv => by
    obtain ⟨a, e, _, g⟩ := hd σ F H M ok
    refine ⟨_, e, a, ?_⟩
    rcases g F1 H1 v x1 dv with ⟨z, g'⟩ | ⟨u, d', z, g', du⟩
    · subst z; exact ⟨none, rfl, g', h F1 H1 x1⟩
    · subst z; exact ⟨some u, rfl, g', h F1 H1 x1⟩)
theorem cm_ninDc (c : Ctx X C W k) (hb : Ev X W ρ b y) (hd : DcAt X ρ i y o) (hN : X.N[i]? = some x := by rfl) (hv : Vis X.env.scope x := by first | exact Or.inl rfl | exact Or.inr (Or.inl rfl) | exact Or.inr (Or.inr rfl))
    (h1 : (x == ("__debug__" : Str)) = false := by decide) (h2 : (x == ("__classdict__" : Str)) = false := by decide) : Cm X W ρ .NotIn b (.Name x px) (!o.isSome) :=
  fun pins s σ F H M Q I ok h => (pc_dnotin c.hu hb.pe (pe_var hN hv h1 h2)).run pins s σ H Q I (rd ok fun v F1 H1 x1 dv => by
    obtain ⟨a, e, _, g⟩ := hd σ F H M ok
    refine ⟨_, e, a, ?_⟩
    rcases g F1 H1 v x1 dv with ⟨z, g'⟩ | ⟨u, d', z, g', du⟩
    · subst z; exact ⟨none, rfl, g', h F1 H1 x1⟩
    · subst z; exact ⟨some u, rfl, g', h F1 H1 x1⟩)
/-- x.get(b, d) -/
theorem ev_dget2 {apos : Pos} {dd : PyData} (c : Ctx X C W k) (hd : DcAt X ρ i y o) (hb : Ev X W ρ b y) (hf : Ev X W ρ d dd) (m : M2 X (.Name x px) "get" apos b d pos := by exact ⟨rfl, rfl, rfl, rfl⟩) (hN : X.N[i]? = some x := by rfl) (hv : Vis X.env.scope x := by first | exact Or.inl rfl | exact Or.inr (Or.inl rfl) | exact Or.inr (Or.inr rfl))
    (h1 : (x == ("__debug__" : Str)) = false := by decide) (h2 : (x == ("__classdict__" : Str)) = false := by decide) : Ev X W ρ (.Call (.Attribute (.Name x px) "get" apos) [b, d] [] pos) (o.getD dd) :=
  ev1_of (pe_dget2 c.hu (pe_var hN hv h1 h2) hb.pe hf.pe m) fun σ F H M Q ok h => by
    obtain ⟨a, e, hi, g⟩ := hd σ F H M ok
    refine ⟨_, e, a, rfl, hi, rd ok fun v F1 H1 x1 dv => rd (ok.ext x1) fun z F2 H2 x2 dz => ?_⟩
    rcases g F2 H2 v (x1.trans x2) (dq_mono x2.f _ _ dv) with ⟨z', g'⟩ | ⟨u, d', z', g', du⟩
    · subst z'; exact ⟨none, g', h z F2 H2 (x1.trans x2) dz⟩
    · subst z'; exact ⟨some u, g', h u F2 H2 (x1.trans x2) du⟩
/-! ### what is put into it -/
theorem PInv.mutS {K : PySem.W.Frag} {B F0 F H : Hp} {σ : St} {M : Nat → Mini} {i : Nat} {S S' : Slot} {a : Addr} {o o' : HO} (x : PInv K B F0 ρ F σ H M) (hi : ρ[i]? = some (some S)) (hσ : σ[i]? = some (some (.ref a))) (hM : M i = [(a, o)]) (hS : S'.R K F (.ref a) [(a, o')]) :
    PInv K B F0 (ρ.set i (some S')) F σ (upd H a o') (upM M i [(a, o')]) := by
  have ha : (a, o) ∈ M i := by rw [hM]; exact List.mem_cons_self
  refine x.change hi hσ ha hS fun b u hb => ?_
  have hb : (b, u) = (a, o') := by simpa using hb
  cases hb
  exact ⟨upd_same, (x.ok.own i a _ ha).2, x.mb i a _ ha, fun j u' hj hz => hj (x.ok.apart j i a u' o hz ha)⟩
/-- x[b] = d -/
theorem sxs_dputK (i : Nat) {pb : Pos} {kvs : List (Key × PyData)} {y : Key} {z : PyData} (c : Ctx X C W k) (hd : ρ[i]? = some (some (dk kvs))) (he : Ev X W ρ d z) (hb : Ev X W ρ b (kD y)) (hl : kvs.length < sizeLine) (kk : Sxs X W rest (ρ.set i (some (dk (putP kvs y z)))) Φ)
    (hs : swapsWith d (some (.Subscript (.Name x px) b pb)) pos.line X.env = pure false := by rfl) (hN : X.N[i]? = some x := by rfl) (hv : Vis X.env.scope x := by first | exact Or.inl rfl | exact Or.inr (Or.inl rfl) | exact Or.inr (Or.inr rfl))
    (h1 : (x == ("__debug__" : Str)) = false := by decide) (h2 : (x == ("__classdict__" : Str)) = false := by decide) : Sxs X W (.Assign [.Subscript (.Name x px) b pb] d pos :: rest) ρ Φ :=
  sxs_of (ps_dput c.hu (pe_var hN hv h1 h2) hb.pe he.pe hs) fun σ F H M B F0 D ok q => by
    obtain ⟨v, e, a, ps, rfl, hm, r⟩ := ok.ok.at_ i _ hd
    have hH : H a = some (.dK ps) := (ok.ok.own i a _ (by rw [hm]; exact List.mem_cons_self)).1
    refine rd ok.ok fun w F1 H1 x1 dw => ⟨_, e, rd (ok.ok.ext x1) fun u F2 H2 x2 du => ?_⟩
    have ok2 := ok.ext (x1.trans x2)
    rw [dq_key du]
    refine ⟨a, _, rfl, DPut.k ((x1.trans x2).h _ _ hH) (by rw [r.len]; exact hl), _, Φ, F2, _, B, F0, kk, ok2.mutS hd e hm ⟨a, _, rfl, rfl, (r.mono (x1.trans x2).f).put y (dq_mono x2.f _ _ dw)⟩, q⟩
theorem sxs_dputT (i : Nat) {pb : Pos} {kvs : List (List Key × PyData)} {y : List Key} {z : PyData} (c : Ctx X C W k) (hd : ρ[i]? = some (some (dt kvs))) (he : Ev X W ρ d z) (hb : Ev X W ρ b (.tuple (y.map kD))) (hl : kvs.length < sizeLine) (kk : Sxs X W rest (ρ.set i (some (dt (putP kvs y z)))) Φ)
    (hs : swapsWith d (some (.Subscript (.Name x px) b pb)) pos.line X.env = pure false := by rfl) (hN : X.N[i]? = some x := by rfl) (hv : Vis X.env.scope x := by first | exact Or.inl rfl | exact Or.inr (Or.inl rfl) | exact Or.inr (Or.inr rfl))
    (h1 : (x == ("__debug__" : Str)) = false := by decide) (h2 : (x == ("__classdict__" : Str)) = false := by decide) : Sxs X W (.Assign [.Subscript (.Name x px) b pb] d pos :: rest) ρ Φ :=
  sxs_of (ps_dput c.hu (pe_var hN hv h1 h2) hb.pe he.pe hs) fun σ F H M B F0 D ok q => by
    obtain ⟨v, e, a, ps, rfl, hm, r⟩ := ok.ok.at_ i _ hd
    have hH : H a = some (.dT ps) := (ok.ok.own i a _ (by rw [hm]; exact List.mem_cons_self)).1
    refine rd ok.ok fun w F1 H1 x1 dw => ⟨_, e, rd (ok.ok.ext x1) fun u F2 H2 x2 du => ?_⟩
    have ok2 := ok.ext (x1.trans x2)
    obtain ⟨b', rfl, hb'⟩ := dq_tkey du
    refine ⟨a, _, rfl, DPut.t ((x1.trans x2).h _ _ hH) (x2.sub _ _ hb') (by rw [r.len]; exact hl), _, Φ, F2, _, B, F0, kk, ok2.mutS hd e hm ⟨a, _, rfl, rfl, (r.mono (x1.trans x2).f).put y (dq_mono x2.f _ _ dw)⟩, q⟩
end
end PV

/-! The pure-value layer: unpacking; data with bools. -/
namespace PV
open PySem PySem.Spec PyProof.Rows L2
/-- so deep at most, bools among it -/
def clb : Nat → PyData → Bool
  | _, .none => true
  | _, .bool _ => true
  | _, .int _ => true
  | _, .str x => PyData.strOk x
  | n + 1, .list xs => xs.all (clb n)
  | n + 1, .tuple xs => xs.all (clb n)
  | _, _ => false
theorem clbs_shape {n : Nat} (ih : ∀ d, clb n d = true → d.canLay0 = true ∧ d.depth ≤ n) : ∀ xs : List PyData, xs.all (clb n) = true → PyData.canLayAll0 xs = true ∧ PyData.depthAll xs ≤ n := by
  intro xs
  induction xs with
  | nil => intro _; exact ⟨by simp [PyData.canLayAll0], by simp [PyData.depthAll]⟩
  | cons x xs ihx =>
    intro h
    have h' := Bool.and_eq_true_iff.mp (by simpa using h : (clb n x && xs.all (clb n)) = true)
    obtain ⟨a1, a2⟩ := ih x h'.1
    obtain ⟨b1, b2⟩ := ihx h'.2
    refine ⟨by simp [PyData.canLayAll0, a1, b1], ?_⟩
    rw [PyData.depthAll]
    exact Nat.max_le.mpr ⟨a2, b2⟩
theorem clb_shape : ∀ (n : Nat) (d : PyData), clb n d = true → d.canLay0 = true ∧ d.depth ≤ n := by
  intro n
  induction n with
  | zero =>
    intro d h
    cases d with
    | str x => exact ⟨by simpa [PyData.canLay0, clb] using h, by simp [PyData.depth]⟩
    | none => exact ⟨by simp [PyData.canLay0], by simp [PyData.depth]⟩
    | bool b => exact ⟨by simp [PyData.canLay0], by simp [PyData.depth]⟩
    | int i => exact ⟨by simp [PyData.canLay0], by simp [PyData.depth]⟩
    | list xs => simp [clb] at h
    | tuple xs => simp [clb] at h
    | dict xs => simp [clb] at h
  | succ n ih =>
    intro d h
    cases d with
    | str x => exact ⟨by simpa [PyData.canLay0, clb] using h, by simp [PyData.depth]⟩
    | none => exact ⟨by simp [PyData.canLay0], by simp [PyData.depth]⟩
    | bool b => exact ⟨by simp [PyData.canLay0], by simp [PyData.depth]⟩
    | int i => exact ⟨by simp [PyData.canLay0], by simp [PyData.depth]⟩
    | list xs =>
      obtain ⟨a, b⟩ := clbs_shape ih xs (by simpa [clb] using h)
      exact ⟨by simpa [PyData.canLay0] using a, by rw [PyData.depth]; omega⟩
    | tuple xs =>
      obtain ⟨a, b⟩ := clbs_shape ih xs (by simpa [clb] using h)
      exact ⟨by simpa [PyData.canLay0] using a, by rw [PyData.depth]; omega⟩
    | dict xs => simp [clb] at h
theorem clb_shaped {n : Nat} {d : PyData} (h : clb n d = true) (hn : n ≤ 64 := by decide) : SeqAt.shaped d = true := by
  obtain ⟨a, b⟩ := clb_shape n d h
  unfold SeqAt.shaped
  rw [a, Bool.true_and]
  exact decide_eq_true (Nat.le_trans b hn)
theorem clb_self : ∀ (n : Nat) (d : PyData), clb n d = true → PyData.eqv d d = true := by
  intro n
  induction n with
  | zero => intro d h; cases d <;> simp_all [clb, PyData.eqv]
  | succ n ih =>
    have key : ∀ xs : List PyData, xs.all (clb n) = true → PyData.eqvAll xs xs = true := by
      intro xs
      induction xs with
      | nil => intro _; simp [PyData.eqvAll]
      | cons x xs ihx =>
        intro h
        have h' := Bool.and_eq_true_iff.mp (by simpa using h : (clb n x && xs.all (clb n)) = true)
        rw [PyData.eqvAll, ih x h'.1, ihx h'.2]
        rfl
    intro d h
    cases d with
    | list xs => rw [PyData.eqv]; exact key xs (by simpa [clb] using h)
    | tuple xs => rw [PyData.eqv]; exact key xs (by simpa [clb] using h)
    | _ => simp_all [clb, PyData.eqv]
theorem cl_b : ∀ (n : Nat) (d : PyData), cl n d = true → clb n d = true := by
  intro n
  induction n with
  | zero => intro d h; cases d <;> simp_all [cl, clb]
  | succ n ih =>
    intro d h
    cases d with
    | list xs =>
      have h : xs.all (cl n) = true := by simpa [cl] using h
      simp only [clb, List.all_eq_true] at h ⊢
      exact fun x hx => ih x (h x hx)
    | tuple xs =>
      have h : xs.all (cl n) = true := by simpa [cl] using h
      simp only [clb, List.all_eq_true] at h ⊢
      exact fun x hx => ih x (h x hx)
    | _ => simp_all [cl, clb]
theorem clb_list {α : Type} {f : α → PyData} {n : Nat} {xs : List α} (h : ∀ x ∈ xs, clb n (f x) = true) : clb (n + 1) (.list (xs.map f)) = true := by
  simp only [clb, List.all_map, List.all_eq_true]
  exact h
theorem cl_list {α : Type} {f : α → PyData} {n : Nat} {xs : List α} (h : ∀ x ∈ xs, cl n (f x) = true) : cl (n + 1) (.list (xs.map f)) = true := by
  simp only [cl, List.all_map, List.all_eq_true]
  exact h
section
variable {X : Cx} {W : Wc} {ρ : Env} {e a b d tg : Expr} {es ts : List Expr} {pos p : Pos} {C : Ec → Addr} {k : Nat} {rest : List Stmt} {Φ : Out → Prop}
/-- t, .. = e -/
theorem sxs_unpack {kk : Nat} {is : List Nat} {ds : List PyData} (hg : TgOk X (.Tuple ts kk p) true is) (he : Ev X W ρ e (.tuple ds)) (hl : ds.length = is.length) (kc : Sxs X W rest (setAll ρ is ds) Φ)
    (hp : ∀ t g, PE X e t → PG X (.Tuple ts kk p) g → PS X (.Assign [.Tuple ts kk p] e pos) (tAsg t g) := by exact fun t g h h' => ps_asg h h') : Sxs X W (.Assign [.Tuple ts kk p] e pos :: rest) ρ Φ :=
  sxs_of (hp _ _ he.pe hg) fun σ F H M B F0 D ok q => rd ok.ok fun v F1 H1 x1 dv => by
    refine gOf_ok x1.sub dv ⟨fun _ => ⟨ds, rfl⟩, hl⟩ fun vs dvs => ?_
    obtain ⟨M', ok'⟩ := PInv.setAll (is := is) (ok.ext x1) dvs
    exact ⟨_, Φ, F1, M', B, F0, kc, ok', q⟩
theorem DcAt.to {i : Nat} {y : PyData} {o o' : Option PyData} (h : DcAt X ρ i y o) (e : o = o') : DcAt X ρ i y o' := e ▸ h
theorem szm {n : Nat} (h : n ≤ 10000000) : n ≤ sizeLine := Nat.le_trans h (by decide)
/-- x = f(..): whatever comes of it -/
theorem sxs_callS {ι : Type} {n : Nat} {ins : ι → List Slot} {pre : ι → Prop} {r : ι → Except Ec Slot → Prop} {x y : Str} {j : Nat} {pos' spos : Pos} (i0 : Nat) (c : Ctx X C W k) (G : Callee X.prog X.w X.K X.mg X.base j x (spP X.K C n ins pre r)) (i : ι) (hp : pre i) (ha : EvAS X W ρ (e :: es) (ins i))
    (kk : ∀ S, r i (.ok S) → Sxs X W rest (ρ.set i0 (some S)) Φ) (kr : ∀ cl, r i (.error cl) → Φ (.raise cl ρ)) (hj : j ≤ k := by decide) (hn : (ins i).length = n := by rfl)
    (hg : Gl X x := by rfl) (hdb : (x == ("__debug__" : Str)) = false := by decide) (he : starEach (e :: es) X.env = (false, eval e X.env) :: starEach es X.env := by rfl) (hpl : (backTo pos (starEach es X.env)).any (·.1) = false := by rfl)
    (hi : X.N[i0]? = some y := by rfl) (hx : Loc X.env.scope y := by first | exact Or.inl rfl | exact Or.inr rfl) (hs : swapsWith (.Call (.Name x p) (e :: es) [] pos) (some (.Name y pos')) spos.line X.env = pure false := by rfl)
    (hf : X.fn y = true ∨ X.env.scope.names.lookup y = some .local := by first | exact .inl rfl | exact .inr rfl) : Sxs X W (.Assign [.Name y pos'] (.Call (.Name x p) (e :: es) [] pos) spos :: rest) ρ Φ := by
  have pe : PE X (.Call (.Name x p) (e :: es) [] pos) (fun σ H Q => ∃ F M, EOk X.K ρ F σ H M ∧ (∀ S, r i (.ok S) → ∀ v F' H' m, Ext F H F' H' → S.R X.K F' v m → (∀ a o, (a, o) ∈ m → H' a = some o ∧ F' a = none ∧ H a = none) → Q v H') ∧ (∀ cl, r i (.error cl) → ∀ F' H', Ext F H F' H' → W cl σ H')) :=
    ⟨fun pins s σ H Q I ⟨F, M, ok, h1, h2⟩ => call_any c G hj i hp ha hn hg hdb he hpl pins s σ F H M Q I ok h1 h2⟩
  refine sxs_of (ps_set c.nd hi hx pe hs hf) fun σ F H M B F0 D ok q => ⟨F, M, ok.ok, fun S hS v F' H' m x hv hm => ?_, fun cl hc F' H' x => q _ (kr cl hc) F' σ H' M (ok.ext x)⟩
  have y : PInv X.K B F0 (ρ.set i0 (some S)) F' (σ.set i0 (some v)) H' (upM M i0 m) := (ok.ext x).set hv fun a o z => by
    obtain ⟨y1, y2, y3⟩ := hm a o z
    refine ⟨y1, y2, ok.base.free y3, fun j o' hj hm' => ?_⟩
    have w := (ok.ok.own j a o' hm').1
    rw [y3] at w; cases w
  exact ⟨_, Φ, F', _, B, F0, kk S hS, y, q⟩
end
end PV

/-! Books: sayings, words, places, forms as plain data. -/
namespace Tl
open PySem PySem.Spec PyProof.Rows L2 PV
inductive Say where
  | txt (s : Str) | pg (k : Nat) | rw (k : Nat)
def sayD : Say → PyData
  | .txt s => .tuple [.str "text", .str s]
  | .pg k => .tuple [.str "page", .int k]
  | .rw k => .tuple [.str "row", .int k]
abbrev Plc := Nat × Nat
def plD (p : Plc) : PyData := .tuple [.int p.1, .int p.2]
structure Frm where
  wide : Nat
  high : Nat
  first : Nat
  most : Nat
def frD (f : Frm) : PyData := .tuple [.int f.wide, .int f.high, .int f.first, .int f.most]
structure Wrd where
  lead : Nat
  kept : Bool
  own : Say
  foot : List Say
def wdD (w : Wrd) : PyData := .tuple [.int w.lead, .bool w.kept, sayD w.own, .list (w.foot.map sayD)]
def bkD (b : Frm × List Wrd) : PyData := .tuple [frD b.1, .list (b.2.map wdD)]
/-! ### figures -/
def figS (n : Nat) : Str := toString ((n : Nat) : Int)
theorem fig_cps (n : Nat) : (figS n).cps.toList = (Nat.toDigits 10 n).map Char.toNat := by
  have h : Str.ofString (toString (Int.ofNat n)) = ⟨((Nat.toDigits 10 n).map Char.toNat).toArray⟩ := text_ofNat n
  show (Str.ofString (toString (Int.ofNat n))).cps.toList = _
  rw [h]
theorem fig_length (n : Nat) : (figS n).length = (Nat.toDigits 10 n).length := by
  show (figS n).cps.size = _
  rw [← Array.length_toList, fig_cps, List.length_map]
theorem fig_le {n k : Nat} (hk : 0 < k) (h : n < 10 ^ k) : (figS n).length ≤ k := by
  rw [fig_length]; exact (Nat.length_toDigits_le_iff (by decide) hk).mpr h
theorem fig_pos (n : Nat) : 1 ≤ (figS n).length := by
  rw [fig_length]; exact Nat.length_toDigits_pos
theorem fig_mono {m n : Nat} (h : m ≤ n) : (figS m).length ≤ (figS n).length := by
  rw [fig_length, fig_length]
  have hp : 0 < (Nat.toDigits 10 n).length := Nat.length_toDigits_pos
  exact (Nat.length_toDigits_le_iff (by decide) hp).mpr (Nat.lt_of_le_of_lt h ((Nat.length_toDigits_le_iff (by decide) hp).mp (Nat.le_refl _)))
theorem strOk_of (s : String) : PyData.strOk (Str.ofString s) = true := by
  rw [Str.ofString_eq_toList]
  unfold PyData.strOk
  rw [← Array.all_toList, List.all_eq_true]
  intro c hc
  obtain ⟨ch, _, rfl⟩ := List.mem_map.mp (show c ∈ s.toList.map Char.toNat from hc)
  have h := ch.valid
  have h2 : ch.val.toNat < 0x110000 := by
    rcases h with h | h
    · have h' : ch.val.toNat < 0xd800 := h
      omega
    · have h' : ch.val.toNat < 0x110000 := h.2
      exact h'
  exact decide_eq_true h2
theorem fig_ok (n : Nat) : PyData.strOk (figS n) = true := strOk_of _
theorem log2_small {n : Nat} (h : n < 10 ^ 100) : (((n : Nat) : Int).natAbs).log2 < 1920 := by
  rw [Int.natAbs_natCast]
  by_cases e : n = 0
  · subst e; decide
  · exact (Nat.log2_lt e).mpr (Nat.lt_of_lt_of_le h (by decide +kernel))
theorem app_size (x y : Str) : (x ++ y).length = x.length + y.length := by
  show (x.cps ++ y.cps).size = _
  rw [Array.size_append]; rfl
theorem app_strOk {x y : Str} (hx : PyData.strOk x = true) (hy : PyData.strOk y = true) : PyData.strOk (x ++ y) = true := by
  show (x.cps ++ y.cps).all _ = true
  unfold PyData.strOk at hx hy
  rw [Array.all_append, hx, hy]
  rfl
/-! ### what a saying says -/
def plAt (ps : List Plc) (k : Nat) : Plc := ps.getD k (0, 0)
theorem plAt_get {ps : List Plc} {k : Nat} (h : k < ps.length) : ps[k]? = some (plAt ps k) := by
  unfold plAt
  rw [List.getD_eq_getElem?_getD, List.getElem?_eq_getElem h]
  rfl
def said (f : Frm) (ps : List Plc) : Say → Str
  | .txt t => t
  | .pg k => figS (f.first + (plAt ps k).1)
  | .rw k => figS ((plAt ps k).1 * f.high + (plAt ps k).2 + 1)
def okSay (n : Nat) : Say → Prop
  | .txt t => PyData.strOk t = true ∧ t.length ≤ 100
  | .pg k => k < n
  | .rw k => k < n
def okFrm (f : Frm) : Prop := f.wide ≤ 1000000 ∧ f.high ≤ 1000 ∧ f.first ≤ 10 ^ 70 ∧ f.most ≤ 1000000
def okPls (ps : List Plc) : Prop := ps.length ≤ 100 ∧ ∀ k, (plAt ps k).1 ≤ 1000 ∧ (plAt ps k).2 ≤ 1000
theorem num1 {f : Frm} {ps : List Plc} (hf : okFrm f) (hp : okPls ps) (k : Nat) : f.first + (plAt ps k).1 < 10 ^ 71 := by
  have h1 := hf.2.2.1
  have h2 := (hp.2 k).1
  have : (10 : Nat) ^ 71 = 10 ^ 70 * 10 := by decide +kernel
  have h3 : 1000 ≤ 10 ^ 70 := by decide +kernel
  omega
theorem num2 {f : Frm} {ps : List Plc} (hf : okFrm f) (hp : okPls ps) (k : Nat) : (plAt ps k).1 * f.high + (plAt ps k).2 + 1 < 10 ^ 7 := by
  have h1 := hf.2.1
  have h2 := hp.2 k
  have h3 : (plAt ps k).1 * f.high ≤ 1000 * 1000 := Nat.mul_le_mul h2.1 h1
  omega
theorem said_len {f : Frm} {ps : List Plc} {s : Say} {n : Nat} (hf : okFrm f) (hp : okPls ps) (hs : okSay n s) : (said f ps s).length ≤ 100 := by
  cases s with
  | txt t => exact hs.2
  | pg k => exact Nat.le_trans (fig_le (k := 71) (by decide) (num1 hf hp k)) (by decide)
  | rw k => exact Nat.le_trans (fig_le (k := 7) (by decide) (num2 hf hp k)) (by decide)
theorem said_ok {f : Frm} {ps : List Plc} {s : Say} {n : Nat} (hs : okSay n s) : PyData.strOk (said f ps s) = true := by
  cases s with
  | txt t => exact hs.1
  | pg k => exact fig_ok _
  | rw k => exact fig_ok _
theorem say_cl {n : Nat} {s : Say} (h : okSay n s) : cl 1 (sayD s) = true := by
  cases s with
  | txt t =>
    have a : cl 0 (.str "text") = true := by decide +kernel
    have b : cl 0 (.str t) = true := by simpa [cl] using h.1
    simp only [sayD, cl.eq_def 1, List.all_cons, List.all_nil, a, b, Bool.and_self]
  | pg k =>
    have a : cl 0 (.str "page") = true := by decide +kernel
    have b : cl 0 (.int k) = true := rfl
    simp only [sayD, cl.eq_def 1, List.all_cons, List.all_nil, a, b, Bool.and_self]
  | rw k =>
    have a : cl 0 (.str "row") = true := by decide +kernel
    have b : cl 0 (.int k) = true := rfl
    simp only [sayD, cl.eq_def 1, List.all_cons, List.all_nil, a, b, Bool.and_self]
/-! ### rows filled one by one -/
def fill1 (wide : Nat) (rows : List Str) (t : Str) : List Str := match rows.getLast? with
  | some r => if r.length + 1 + t.length ≤ wide then rows.set (rows.length - 1) (r ++ (" " : Str) ++ t) else rows ++ [t]
  | none => rows ++ [t]
def filled (f : Frm) (ps : List Plc) (foot : List Say) : List Str := (foot.map (said f ps)).foldl (fill1 f.wide) []
theorem fill1_len (wide : Nat) (rows : List Str) (t : Str) : (fill1 wide rows t).length ≤ rows.length + 1 := by
  unfold fill1
  cases rows.getLast? with
  | none => simp
  | some r =>
    show (if _ then _ else _ : List Str).length ≤ _
    split
    · rw [List.length_set]; omega
    · simp
end Tl

/-! The pure-value layer: defs as data for the head. -/
namespace PV
open PySem PySem.Spec PyProof.Rows L2
/-- a def with defaults as a datum -/
def ddD (x : Str) (st : Stmt) (dfl : List He.Dv) : He.DefD := ⟨(x, none), x, x, defArgs st, defBody st, defScope st, dfl, []⟩
end PV

namespace Tl
open PySem PySem.Spec PyProof.Rows L2 PV
def top (i : Nat) : Stmt := PySem.Challenge.pw_trueleaf_k68_whole_pages_tell_the_truth.main.body.getD i (.Pass ⟨0, 0, 0, 0⟩)
abbrev s_figures_of : Stmt := top 1
theorem sc_figures_of : FnScope ["number"] ["number"] (defScope s_figures_of) := ⟨rfl, rfl, rfl, by decide +kernel, rfl, by decide +kernel, by decide +kernel⟩
abbrev s_is_later : Stmt := top 3
theorem sc_is_later : FnScope ["one", "other"] ["one", "other"] (defScope s_is_later) := ⟨rfl, rfl, rfl, by decide +kernel, rfl, by decide +kernel, by decide +kernel⟩
abbrev s_later : Stmt := top 4
theorem sc_later : FnScope ["one", "other"] ["one", "other"] (defScope s_later) := ⟨rfl, rfl, rfl, by decide +kernel, rfl, by decide +kernel, by decide +kernel⟩
abbrev s_is_odd : Stmt := top 5
theorem sc_is_odd : FnScope ["form", "page"] ["form", "page"] (defScope s_is_odd) := ⟨rfl, rfl, rfl, by decide +kernel, rfl, by decide +kernel, by decide +kernel⟩
abbrev s_rows_on : Stmt := top 6
theorem sc_rows_on : FnScope ["form", "place", "many"] ["form", "place", "many"] (defScope s_rows_on) := ⟨rfl, rfl, rfl, by decide +kernel, rfl, by decide +kernel, by decide +kernel⟩
abbrev s_behind : Stmt := top 7
theorem sc_behind : FnScope ["form", "place", "lead", "page"] ["form", "place", "lead"] (defScope s_behind) := ⟨rfl, rfl, rfl, by decide +kernel, rfl, by decide +kernel, by decide +kernel⟩
abbrev s_first_from : Stmt := top 8
theorem sc_first_from : FnScope ["form", "place", "lead"] ["form", "place", "lead"] (defScope s_first_from) := ⟨rfl, rfl, rfl, by decide +kernel, rfl, by decide +kernel, by decide +kernel⟩
abbrev s_said : Stmt := top 10
theorem sc_said : FnScope ["form", "saying", "places", "kind", "thing", "page", "row"] ["form", "saying", "places"] (defScope s_said) := ⟨rfl, rfl, rfl, by decide +kernel, rfl, by decide +kernel, by decide +kernel⟩
abbrev s_wide_of : Stmt := top 11
theorem sc_wide_of : FnScope ["form", "saying", "places"] ["form", "saying", "places"] (defScope s_wide_of) := ⟨rfl, rfl, rfl, by decide +kernel, rfl, by decide +kernel, by decide +kernel⟩
abbrev s_foot_rows : Stmt := top 12
theorem sc_foot_rows : FnScope ["form", "foot", "places", "rows", "saying", "text"] ["form", "foot", "places"] (defScope s_foot_rows) := ⟨rfl, rfl, rfl, by decide +kernel, rfl, by decide +kernel, by decide +kernel⟩
abbrev s_foot_high : Stmt := top 13
theorem sc_foot_high : FnScope ["form", "foot", "places", "rows", "row"] ["form", "foot", "places"] (defScope s_foot_high) := ⟨rfl, rfl, rfl, by decide +kernel, rfl, by decide +kernel, by decide +kernel⟩
abbrev s_first_bounds : Stmt := top 15
theorem sc_first_bounds : FnScope ["book", "word"] ["book"] (defScope s_first_bounds) := ⟨rfl, rfl, rfl, by decide +kernel, rfl, by decide +kernel, by decide +kernel⟩
abbrev s_by_ahead : Stmt := top 16
theorem sc_by_ahead : FnScope ["book", "low", "i", "j", "lead", "spot"] ["book", "low", "i", "j"] (defScope s_by_ahead) := ⟨rfl, rfl, rfl, by decide +kernel, rfl, by decide +kernel, by decide +kernel⟩
abbrev s_by_width : Stmt := top 17
theorem sc_by_width : FnScope ["book", "low", "i", "j", "form", "width", "word"] ["book", "low", "i", "j"] (defScope s_by_width) := ⟨rfl, rfl, rfl, by decide +kernel, rfl, by decide +kernel, by decide +kernel⟩
abbrev s_by_height : Stmt := top 18
theorem sc_by_height : FnScope ["book", "low", "i", "j", "form", "height", "word"] ["book", "low", "i", "j"] (defScope s_by_height) := ⟨rfl, rfl, rfl, by decide +kernel, rfl, by decide +kernel, by decide +kernel⟩
abbrev s_by_next : Stmt := top 19
theorem sc_by_next : FnScope ["book", "low", "i", "j"] ["book", "low", "i", "j"] (defScope s_by_next) := ⟨rfl, rfl, rfl, by decide +kernel, rfl, by decide +kernel, by decide +kernel⟩
abbrev s_by_itself : Stmt := top 20
theorem sc_by_itself : FnScope ["book", "low", "i", "j", "form", "word"] ["book", "low", "i", "j"] (defScope s_by_itself) := ⟨rfl, rfl, rfl, by decide +kernel, rfl, by decide +kernel, by decide +kernel⟩
abbrev s_reach : Stmt := top 21
theorem sc_reach : FnScope ["book", "low", "kind", "i", "j", "spot"] ["book", "low", "kind", "i", "j"] (defScope s_reach) := ⟨rfl, rfl, rfl, by decide +kernel, rfl, by decide +kernel, by decide +kernel⟩
abbrev s_lift : Stmt := top 23
theorem sc_lift : FnScope ["book", "now", "paper", "kind", "i", "j", "spot"] ["book", "now", "paper", "kind", "i", "j"] (defScope s_lift) := ⟨rfl, rfl, rfl, by decide +kernel, rfl, by decide +kernel, by decide +kernel⟩
abbrev s_lift_back : Stmt := top 24
theorem sc_lift_back : FnScope ["book", "now", "paper", "i", "at"] ["book", "now", "paper", "i"] (defScope s_lift_back) := ⟨rfl, rfl, rfl, by decide +kernel, rfl, by decide +kernel, by decide +kernel⟩
abbrev s_sweep : Stmt := top 25
theorem sc_sweep : FnScope ["book", "now", "paper", "form", "row_at", "page_at", "width", "height", "i", "wide", "foot"] ["book", "now", "paper"] (defScope s_sweep) := ⟨rfl, rfl, rfl, by decide +kernel, rfl, by decide +kernel, by decide +kernel⟩
abbrev s_is_beyond : Stmt := top 26
theorem sc_is_beyond : FnScope ["book", "now", "spot"] ["book", "now"] (defScope s_is_beyond) := ⟨rfl, rfl, rfl, by decide +kernel, rfl, by decide +kernel, by decide +kernel⟩
abbrev s_settle : Stmt := top 27
theorem sc_settle : FnScope ["book", "low", "now", "paper", "many"] ["book", "low"] (defScope s_settle) := ⟨rfl, rfl, rfl, by decide +kernel, rfl, by decide +kernel, by decide +kernel⟩
abbrev s_body_rows : Stmt := top 29
theorem sc_body_rows : FnScope ["book", "places", "rows", "k", "word", "place", "text"] ["book", "places"] (defScope s_body_rows) := ⟨rfl, rfl, rfl, by decide +kernel, rfl, by decide +kernel, by decide +kernel⟩
abbrev s_feet_rows : Stmt := top 30
theorem sc_feet_rows : FnScope ["book", "places", "rows", "k", "word", "page"] ["book", "places"] (defScope s_feet_rows) := ⟨rfl, rfl, rfl, by decide +kernel, rfl, by decide +kernel, by decide +kernel⟩
abbrev s_pages_of : Stmt := top 31
theorem sc_pages_of : FnScope ["book", "places", "form", "body", "feet", "pages", "page", "last", "rows", "row"] ["book", "places"] (defScope s_pages_of) := ⟨rfl, rfl, rfl, by decide +kernel, rfl, by decide +kernel, by decide +kernel⟩
abbrev s_law_cell_at : Stmt := top 33
theorem sc_law_cell_at : FnScope ["script", "k"] ["script", "k"] (defScope s_law_cell_at) := ⟨rfl, rfl, rfl, by decide +kernel, rfl, by decide +kernel, by decide +kernel⟩
abbrev s_law_mixed : Stmt := top 34
theorem sc_law_mixed : FnScope ["cell"] ["cell"] (defScope s_law_mixed) := ⟨rfl, rfl, rfl, by decide +kernel, rfl, by decide +kernel, by decide +kernel⟩
abbrev s_law_first : Stmt := top 35
theorem sc_law_first : FnScope ["cell", "kind", "rest"] ["cell"] (defScope s_law_first) := ⟨rfl, rfl, rfl, by decide +kernel, rfl, by decide +kernel, by decide +kernel⟩
abbrev s_law_signs : Stmt := top 36
theorem sc_law_signs : FnScope ["number", "size", "some", "step", "k"] ["number", "size"] (defScope s_law_signs) := ⟨rfl, rfl, rfl, by decide +kernel, rfl, by decide +kernel, by decide +kernel⟩
abbrev s_law_said_by : Stmt := top 37
theorem sc_law_said_by : FnScope ["form", "saying", "places", "page", "row"] ["form", "saying", "places"] (defScope s_law_said_by) := ⟨rfl, rfl, rfl, by decide +kernel, rfl, by decide +kernel, by decide +kernel⟩
abbrev s_law_high_by : Stmt := top 38
theorem sc_law_high_by : FnScope ["form", "foot", "places", "rows", "used", "saying", "size"] ["form", "foot", "places"] (defScope s_law_high_by) := ⟨rfl, rfl, rfl, by decide +kernel, rfl, by decide +kernel, by decide +kernel⟩
abbrev s_law_behind_by : Stmt := top 39
theorem sc_law_behind_by : FnScope ["form", "place", "lead", "page", "row", "high", "count"] ["form", "place", "lead"] (defScope s_law_behind_by) := ⟨rfl, rfl, rfl, by decide +kernel, rfl, by decide +kernel, by decide +kernel⟩
abbrev s_law_sooner : Stmt := top 40
theorem sc_law_sooner : FnScope ["one", "other"] ["one", "other"] (defScope s_law_sooner) := ⟨rfl, rfl, rfl, by decide +kernel, rfl, by decide +kernel, by decide +kernel⟩
abbrev s_law_numbers : Stmt := top 41
theorem sc_law_numbers : FnScope ["script", "most", "cells", "first", "many", "found", "k"] ["script", "most"] (defScope s_law_numbers) := ⟨rfl, rfl, rfl, by decide +kernel, rfl, by decide +kernel, by decide +kernel⟩
abbrev s_law_rising : Stmt := top 42
theorem sc_law_rising : FnScope ["numbers", "base", "room", "found", "page", "row", "count", "k", "number", "old", "step", "far"] ["numbers", "base", "room"] (defScope s_law_rising) := ⟨rfl, rfl, rfl, by decide +kernel, rfl, by decide +kernel, by decide +kernel⟩
abbrev s_law_some : Stmt := top 43
theorem sc_law_some : FnScope ["number", "many", "big", "kind", "size"] ["number", "many", "big"] (defScope s_law_some) := ⟨rfl, rfl, rfl, by decide +kernel, rfl, by decide +kernel, by decide +kernel⟩
abbrev s_law_parts : Stmt := top 44
theorem sc_law_parts : FnScope ["numbers", "big", "left", "parts", "number", "many", "own", "foot", "k"] ["numbers", "big"] (defScope s_law_parts) := ⟨rfl, rfl, rfl, by decide +kernel, rfl, by decide +kernel, by decide +kernel⟩
abbrev s_law_sizes : Stmt := top 45
theorem sc_law_sizes : FnScope ["form", "parts", "places", "wide", "high", "row_wide", "feet", "k", "part", "size", "one"] ["form", "parts", "places"] (defScope s_law_sizes) := ⟨rfl, rfl, rfl, by decide +kernel, rfl, by decide +kernel, by decide +kernel⟩
abbrev s_law_fitting : Stmt := top 46
theorem sc_law_fitting : FnScope ["parts", "layings", "base", "first", "number", "most", "wide", "high", "pages", "places", "part"] ["parts", "layings", "base", "first", "number"] (defScope s_law_fitting) := ⟨rfl, rfl, rfl, by decide +kernel, rfl, by decide +kernel, by decide +kernel⟩
abbrev s_law_let : Stmt := top 47
theorem sc_law_let : FnScope ["form", "layings", "k", "lead", "places"] ["form", "layings", "k", "lead"] (defScope s_law_let) := ⟨rfl, rfl, rfl, by decide +kernel, rfl, by decide +kernel, by decide +kernel⟩
abbrev s_law_words : Stmt := top 48
theorem sc_law_words : FnScope ["form", "parts", "layings", "numbers", "words", "k", "part", "choices", "number", "apart", "kept", "lead", "places"] ["form", "parts", "layings", "numbers"] (defScope s_law_words) := ⟨rfl, rfl, rfl, by decide +kernel, rfl, by decide +kernel, by decide +kernel⟩
abbrev s_law_drawn : Stmt := top 49
theorem sc_law_drawn : FnScope ["script", "most", "many", "numbers", "first", "number", "base", "room", "layings", "parts", "form", "one"] ["script", "most", "many"] (defScope s_law_drawn) := ⟨rfl, rfl, rfl, by decide +kernel, rfl, by decide +kernel, by decide +kernel⟩
abbrev s_law_is_place : Stmt := top 50
theorem sc_law_is_place : FnScope ["found", "part"] ["found"] (defScope s_law_is_place) := ⟨rfl, rfl, rfl, by decide +kernel, rfl, by decide +kernel, by decide +kernel⟩
abbrev s_law_is_pages : Stmt := top 51
theorem sc_law_is_pages : FnScope ["found", "many", "high", "page", "row"] ["found", "many", "high"] (defScope s_law_is_pages) := ⟨rfl, rfl, rfl, by decide +kernel, rfl, by decide +kernel, by decide +kernel⟩
abbrev s_law_truly : Stmt := top 52
theorem sc_law_truly : FnScope ["form", "saying", "places", "pages", "page", "row"] ["form", "saying", "places", "pages"] (defScope s_law_truly) := ⟨rfl, rfl, rfl, by decide +kernel, rfl, by decide +kernel, by decide +kernel⟩
abbrev s_law_words_read : Stmt := top 53
theorem sc_law_words_read : FnScope ["book", "places", "pages", "form", "words", "at", "k", "word", "page", "row", "some"] ["book", "places", "pages"] (defScope s_law_words_read) := ⟨rfl, rfl, rfl, by decide +kernel, rfl, by decide +kernel, by decide +kernel⟩
abbrev s_law_feet_read : Stmt := top 54
theorem sc_law_feet_read : FnScope ["book", "places", "pages", "form", "words", "page", "due", "many", "body", "k", "word", "rows", "read", "row", "one"] ["book", "places", "pages"] (defScope s_law_feet_read) := ⟨rfl, rfl, rfl, by decide +kernel, rfl, by decide +kernel, by decide +kernel⟩
abbrev s_law_laid : Stmt := top 55
theorem sc_law_laid : FnScope ["found", "many", "high", "page", "place"] ["found", "many", "high"] (defScope s_law_laid) := ⟨rfl, rfl, rfl, by decide +kernel, rfl, by decide +kernel, by decide +kernel⟩
abbrev s_law : Stmt := top 56
theorem sc_law : FnScope ["script", "drawn", "layings", "number", "less", "form", "book", "places", "many", "pages", "k", "page", "place", "row"] ["script"] (defScope s_law) := ⟨rfl, rfl, rfl, by decide +kernel, rfl, by decide +kernel, by decide +kernel⟩
def fns : List He.DefD := [dd "figures_of" s_figures_of, dd "is_later" s_is_later, dd "later" s_later, dd "is_odd" s_is_odd, dd "rows_on" s_rows_on, dd "behind" s_behind, dd "first_from" s_first_from, dd "said" s_said, dd "wide_of" s_wide_of, dd "foot_rows" s_foot_rows, dd "foot_high" s_foot_high, dd "first_bounds" s_first_bounds, dd "by_ahead" s_by_ahead, dd "by_width" s_by_width, dd "by_height" s_by_height, dd "by_next" s_by_next, dd "by_itself" s_by_itself, dd "reach" s_reach, dd "lift" s_lift, dd "lift_back" s_lift_back, dd "sweep" s_sweep, dd "is_beyond" s_is_beyond, ddD "settle" s_settle [.non], dd "body_rows" s_body_rows, dd "feet_rows" s_feet_rows, dd "pages_of" s_pages_of, dd "_law_cell_at" s_law_cell_at, dd "_law_mixed" s_law_mixed, dd "_law_first" s_law_first, dd "_law_signs" s_law_signs, dd "_law_said_by" s_law_said_by, dd "_law_high_by" s_law_high_by, dd "_law_behind_by" s_law_behind_by, dd "_law_sooner" s_law_sooner, dd "_law_numbers" s_law_numbers, dd "_law_rising" s_law_rising, dd "_law_some" s_law_some, dd "_law_parts" s_law_parts, dd "_law_sizes" s_law_sizes, dd "_law_fitting" s_law_fitting, dd "_law_let" s_law_let, dd "_law_words" s_law_words, dd "_law_drawn" s_law_drawn, dd "_law_is_place" s_law_is_place, dd "_law_is_pages" s_law_is_pages, dd "_law_truly" s_law_truly, dd "_law_words_read" s_law_words_read, dd "_law_feet_read" s_law_feet_read, dd "_law_laid" s_law_laid, dd "law" s_law]
def glos : List He.Fa := [.glo "figures_of", .glo "is_later", .glo "later", .glo "is_odd", .glo "rows_on", .glo "behind", .glo "first_from", .glo "said", .glo "wide_of", .glo "foot_rows", .glo "foot_high", .glo "first_bounds", .glo "by_ahead", .glo "by_width", .glo "by_height", .glo "by_next", .glo "by_itself", .glo "reach", .glo "lift", .glo "lift_back", .glo "sweep", .glo "is_beyond", .glo "settle", .glo "body_rows", .glo "feet_rows", .glo "pages_of", .glo "_law_cell_at", .glo "_law_mixed", .glo "_law_first", .glo "_law_signs", .glo "_law_said_by", .glo "_law_high_by", .glo "_law_behind_by", .glo "_law_sooner", .glo "_law_numbers", .glo "_law_rising", .glo "_law_some", .glo "_law_parts", .glo "_law_sizes", .glo "_law_fitting", .glo "_law_let", .glo "_law_words", .glo "_law_drawn", .glo "_law_is_place", .glo "_law_is_pages", .glo "_law_truly", .glo "_law_words_read", .glo "_law_feet_read", .glo "_law_laid", .glo "law"]
-- 0 figures_of
-- 1 is_later
-- 2 later
-- 3 is_odd
-- 4 rows_on
-- 5 behind
-- 6 first_from
-- 7 said
-- 8 wide_of
-- 9 foot_rows
-- 10 foot_high
-- 11 first_bounds
-- 12 by_ahead
-- 13 by_width
-- 14 by_height
-- 15 by_next
-- 16 by_itself
-- 17 reach
-- 18 lift
-- 19 lift_back
-- 20 sweep
-- 21 is_beyond
-- 22 settle
-- 23 body_rows
-- 24 feet_rows
-- 25 pages_of
-- 26 _law_cell_at
-- 27 _law_mixed
-- 28 _law_first
-- 29 _law_signs
-- 30 _law_said_by
-- 31 _law_high_by
-- 32 _law_behind_by
-- 33 _law_sooner
-- 34 _law_numbers
-- 35 _law_rising
-- 36 _law_some
-- 37 _law_parts
-- 38 _law_sizes
-- 39 _law_fitting
-- 40 _law_let
-- 41 _law_words
-- 42 _law_drawn
-- 43 _law_is_place
-- 44 _law_is_pages
-- 45 _law_truly
-- 46 _law_words_read
-- 47 _law_feet_read
-- 48 _law_laid
-- 49 law
def loose0 : List Str := ["figures_of", "is_later", "later", "is_odd", "rows_on", "behind", "first_from", "said", "wide_of", "foot_rows", "foot_high", "first_bounds", "by_ahead", "by_width", "by_height", "by_next", "by_itself", "reach", "lift", "lift_back"]
def loose1 : List Str := ["sweep", "is_beyond", "settle", "body_rows", "feet_rows", "pages_of", "_law_cell_at", "_law_mixed", "_law_first", "_law_signs", "_law_said_by", "_law_high_by", "_law_behind_by", "_law_sooner", "_law_numbers", "_law_rising", "_law_some", "_law_parts", "_law_sizes", "_law_fitting"]
def loose2 : List Str := ["_law_let", "_law_words", "_law_drawn", "_law_is_place", "_law_is_pages", "_law_truly", "_law_words_read", "_law_feet_read", "_law_laid"]
def loose : List Str := loose0 ++ loose1 ++ loose2
abbrev R : PySem.W.OpenRow := PySem.W.OpenLaw.row PySem.Challenge.rw_trueleaf_k68_whole_pages_tell_the_truth
def lawAt : Nat := 56
end Tl

/-! The law's numbers. -/
namespace Tl
open PySem PySem.Spec PyProof.Rows L2 PV
def mixed (c : Int) : Int := (c + 1) * 1357913579135791357 % 2305843009213693951
def cellAt (ns : List Int) (k : Nat) : Int := ns.getD k 0
def nines (n : Nat) : Int := (PySem.intText? (("0" : Str) ++ Txt.mul ("9" : Str) (n : Int))).getD 0
theorem nines_ok : ∀ n : Nat, n < 61 → PySem.intText? (("0" : Str) ++ Txt.mul ("9" : Str) (n : Int)) = some (nines n) := by
  intro n hn
  have h : ∀ n : Fin 61, (PySem.intText? (("0" : Str) ++ Txt.mul ("9" : Str) ((n.val : Nat) : Int))).isSome = true := by decide +kernel
  have h1 := h ⟨n, hn⟩
  unfold nines
  cases e : PySem.intText? (("0" : Str) ++ Txt.mul ("9" : Str) (n : Int)) with
  | none => rw [e] at h1; cases h1
  | some v => rfl
def first (c : Int) : Int := if c % 4 = 0 then c / 4 % 3 else if c % 4 = 1 then max 0 (nines (c / 4 % 61).toNat - c / 4 / 61 % 13) else if c % 4 = 2 then c / 4 % (10 ^ 60 + 1) else 95 + c / 4 % 6
section
variable {P : Program} {w : World} {K : PySem.W.Frag} {mg : Str → Option Value} {base : Heap} {C : Ec → Addr}

abbrev C_cell_at (P : Program) (w : World) (K : PySem.W.Frag) (mg : Str → Option Value) (base : Heap) (C : Ec → Addr) := Callee P w K mg base 1 "_law_cell_at" (spP K C 2 (fun (i : List Int × Nat) => [kn (i.1.map .int), fz (.int i.2)]) (fun _ => True) (fun i => is (.ok (fz (.int (cellAt i.1 i.2))))))
theorem ok_cell_at (Bt : Blt mg) (D : Df K mg "_law_cell_at" s_law_cell_at) : C_cell_at P w K mg base C := by
  refine callee_of D sc_law_cell_at (fun _ _ _ _ _ _ us hl => match us, hl with | [_, _], _ => rfl) (fun f cdv A outer s H E c i _ => ?_)
  obtain ⟨ns, k⟩ := i
  show Sxs _ _ _ [some (kn (ns.map .int)), some (fz (.int k))] _
  refine sxs_if (tst_cm (cm_lt (ev_var 1 rfl) (ev_len Bt (bw_var 0 rfl)))) (fun h => ?_) (fun h => ?_)
  · have h1 : k < ns.length := by simpa using h
    refine sxs_ret (ev_ixL (d := .int (cellAt ns k)) (bw_var 0 rfl) (ev_var 1 rfl) (atI_nat ?_)) rfl
    simp [cellAt, h1]
  · have h1 : ¬ k < ns.length := by simpa using h
    refine sxs_nil ?_
    refine sxs_ret ev_int ?_
    show _ = _
    have e : cellAt ns k = 0 := by simp [cellAt, List.getD, List.getElem?_eq_none (Nat.le_of_not_lt h1)]
    rw [e]
abbrev C_mixed (P : Program) (w : World) (K : PySem.W.Frag) (mg : Str → Option Value) (base : Heap) (C : Ec → Addr) := Callee P w K mg base 1 "_law_mixed" (spP K C 1 (fun i : Int => [fz (.int i)]) (fun _ => True) (fun i => is (.ok (fz (.int (mixed i))))))
theorem ok_mixed (D : Df K mg "_law_mixed" s_law_mixed) : C_mixed P w K mg base C := by
  refine callee_of D sc_law_mixed (fun _ _ _ _ _ _ us hl => match us, hl with | [_], _ => rfl) (fun f cdv A outer s H E c i _ => ?_)
  show Sxs _ _ _ [some (fz (.int i))] _
  refine sxs_ret (ev_mod (by decide) (ev_mul (.inr ⟨by decide, by decide⟩) (ev_add (ev_var 0 rfl) ev_int) ev_int) ev_int) ?_
  rfl
abbrev C_first (P : Program) (w : World) (K : PySem.W.Frag) (mg : Str → Option Value) (base : Heap) (C : Ec → Addr) := Callee P w K mg base 1 "_law_first" (spP K C 1 (fun i : Int => [fz (.int i)]) (fun _ => True) (fun i => is (.ok (fz (.int (first i))))))
theorem ok_first (Bt : Blt mg) (D : Df K mg "_law_first" s_law_first) : C_first P w K mg base C := by
  refine callee_of D sc_law_first (fun _ _ _ _ _ _ us hl => match us, hl with | [_], _ => rfl) (fun f cdv A outer s H E c i _ => ?_)
  show Sxs _ _ _ [some (fz (.int i)), none, none] _
  refine sxs_set 1 (ev_mod (by decide) (ev_var 0 rfl) ev_int) ?_ c.nd
  refine sxs_set 2 (ev_fdiv (by decide) (ev_var 0 rfl) ev_int) ?_ c.nd
  refine sxs_if (tst_cm (cm_eq (ev_var 1 rfl) ev_int)) (fun h => ?_) (fun h => ?_)
  · have h : i % 4 = 0 := by simpa using h
    refine sxs_ret (ev_mod (by decide) (ev_var 2 rfl) ev_int) ?_
    show _ = _
    rw [first, if_pos h]
  · have h : ¬ i % 4 = 0 := by simpa using h
    refine sxs_nil ?_
    refine sxs_if (tst_cm (cm_eq (ev_var 1 rfl) ev_int)) (fun h2 => ?_) (fun h2 => ?_)
    · have h2 : i % 4 = 1 := by simpa using h2
      obtain ⟨n, hn, hn2⟩ : ∃ n : Nat, i / 4 % 61 = (n : Int) ∧ n < 61 := ⟨(i / 4 % 61).toNat, by omega, by omega⟩
      have hz : (Txt.mul ("9" : Str) (n : Int)).length = n := by
        show (Txt.mul ("9" : Str) (n : Int)).cps.size = n
        rw [← Array.length_toList, PV.mul_list]
        simp only [Int.toNat_natCast, List.length_flatten, List.map_replicate, Array.length_toList, List.sum_replicate_nat]
        show n * 1 = n
        omega
      refine sxs_ret (ev_max c Bt ev_int (ev_sub (ev_intS (n := nines n) Bt (ev_adds (x := "0") (y := Txt.mul ("9" : Str) (n : Int)) ?_ ev_str (ev_mulS (mulOk_small (by omega) (by omega) ?_) ev_str ((ev_mod (by decide) (ev_var 2 rfl) ev_int).to (by rw [← hn])))) (nines_ok n hn2) ?_) (ev_mod (by decide) (ev_fdiv (by decide) (ev_var 2 rfl) ev_int) ev_int))) ?_
      · rw [hz]; exact szl (by show 1 + n ≤ 10000; omega)
      · rw [Int.toNat_natCast]; show 1 * n ≤ _; omega
      · show (("0" : Str) ++ Txt.mul ("9" : Str) (n : Int)).cps.size ≤ 640
        have : (("0" : Str) ++ Txt.mul ("9" : Str) (n : Int)).cps.size = 1 + n := by
          show ((("0" : Str)).cps ++ (Txt.mul ("9" : Str) (n : Int)).cps).size = _
          rw [Array.size_append]
          have : (Txt.mul ("9" : Str) (n : Int)).cps.size = n := hz
          rw [this]
          rfl
        omega
      · show _ = _
        rw [first, if_neg h, if_pos h2, hn, Int.toNat_natCast]
    · have h2 : ¬ i % 4 = 1 := by simpa using h2
      refine sxs_nil ?_
      refine sxs_if (tst_cm (cm_eq (ev_var 1 rfl) ev_int)) (fun h3 => ?_) (fun h3 => ?_)
      · have h3 : i % 4 = 2 := by simpa using h3
        refine sxs_ret (ev_mod (by decide) (ev_var 2 rfl) (ev_add (ev_pow ⟨by decide, by decide, by decide⟩ ev_int ev_int) ev_int)) ?_
        show _ = _
        rw [first, if_neg h, if_neg h2, if_pos h3]
        rfl
      · have h3 : ¬ i % 4 = 2 := by simpa using h3
        refine sxs_nil ?_
        refine sxs_ret (ev_add ev_int (ev_mod (by decide) (ev_var 2 rfl) ev_int)) ?_
        show _ = _
        rw [first, if_neg h, if_neg h2, if_neg h3]
end
end Tl

/-! What is said, rows filled. -/
namespace Tl
open PySem PySem.Spec PyProof.Rows L2 PV
theorem strs_cl {xs : List Str} (h : ∀ x ∈ xs, PyData.strOk x = true) : cl 1 (.list (xs.map PyData.str)) = true := cl_list fun x hx => by simpa [cl] using h x hx
theorem ixN_last {n : Nat} (h : 0 < n) : ixN n (-1) = some (n - 1) := by
  unfold ixN
  rw [if_neg (by omega), if_pos (by omega)]
  congr 1
  omega
theorem atI_last {α : Type} (f : α → PyData) {xs : List α} {x : α} (h : xs.getLast? = some x) : atI (xs.map f) (-1) = some (f x) := by
  have hn : 0 < xs.length := by
    cases xs with
    | nil => simp at h
    | cons => simp
  unfold atI
  rw [List.length_map, ixN_last hn]
  show (xs.map f)[xs.length - 1]? = _
  rw [List.getElem?_map, ← List.getLast?_eq_getElem?, h]
  rfl
theorem eqv_nil (xs : List PyData) : PyData.eqv (.list xs) (.list []) = decide (xs = []) := by
  cases xs <;> simp [PyData.eqv, PyData.eqvAll]
theorem nil_cl : cl 1 (.list []) = true := rfl
section
variable {P : Program} {w : World} {K : PySem.W.Frag} {mg : Str → Option Value} {base : Heap} {C : Ec → Addr}
abbrev C_figures_of (P : Program) (w : World) (K : PySem.W.Frag) (mg : Str → Option Value) (base : Heap) (C : Ec → Addr) := Callee P w K mg base 1 "figures_of" (spP K C 1 (fun i : Nat => [fz (.int i)]) (fun i => i < 10 ^ 100) (fun i => is (.ok (fz (.str (figS i))))))
theorem ok_figures_of (Bt : Blt mg) (D : Df K mg "figures_of" s_figures_of) : C_figures_of P w K mg base C := by
  refine callee_of D sc_figures_of (fun _ _ _ _ _ _ us hl => match us, hl with | [_], _ => rfl) (fun f cdv A outer s H E c i hi => ?_)
  show Sxs _ _ _ [some (fz (.int i))] _
  refine sxs_ret (ev_strI Bt (ev_var 0 rfl) (log2_small hi)) ?_
  rfl
abbrev InSay := Frm × Say × List Plc
abbrev insSay (i : InSay) : List Slot := [fz (frD i.1), fz (sayD i.2.1), fz (.list (i.2.2.map plD))]
abbrev preSay (i : InSay) : Prop := okFrm i.1 ∧ okPls i.2.2 ∧ okSay i.2.2.length i.2.1
abbrev C_said (P : Program) (w : World) (K : PySem.W.Frag) (mg : Str → Option Value) (base : Heap) (C : Ec → Addr) := Callee P w K mg base 2 "said" (spP K C 3 insSay preSay (fun i => is (.ok (fz (.str (said i.1 i.2.2 i.2.1))))))
theorem ok_said (Bt : Blt mg) (G_figures_of : C_figures_of P w K mg base C) (D : Df K mg "said" s_said) : C_said P w K mg base C := by
  refine callee_of D sc_said (fun _ _ _ _ _ _ us hl => match us, hl with | [_, _, _], _ => rfl) (fun f cdv A outer s H E c i hi => ?_)
  obtain ⟨fm, sy, ps⟩ := i
  obtain ⟨hf, hp, hs⟩ := hi
  simp only at hf hp hs
  show Sxs _ _ _ [some (fz (frD fm)), some (fz (sayD sy)), some (fz (.list (ps.map plD))), none, none, none, none] _
  have lt1 : ∀ k, fm.first + (plAt ps k).1 < 10 ^ 100 := fun k => Nat.lt_of_lt_of_le (num1 hf hp k) (by decide +kernel)
  have lt2 : ∀ k, (plAt ps k).1 * fm.high + (plAt ps k).2 + 1 < 10 ^ 100 := fun k => Nat.lt_of_lt_of_le (num2 hf hp k) (by decide +kernel)
  cases sy with
  | txt t =>
    refine sxs_unpack (tg_tup c.calm (tgs_cons 3 c.nd (tgs_cons 4 c.nd tgs_nil))) (ev_var 1 rfl) rfl ?_
    refine sxs_if (tst_cm (cm_eqS (ev_var 3 rfl) ev_str)) (fun h => ?_) (fun h => absurd h (by decide +kernel))
    exact sxs_ret (ev_var 4 rfl) rfl
  | pg k =>
    refine sxs_unpack (tg_tup c.calm (tgs_cons 3 c.nd (tgs_cons 4 c.nd tgs_nil))) (ev_var 1 rfl) rfl ?_
    refine sxs_if (tst_cm (cm_eqS (ev_var 3 rfl) ev_str)) (fun h => absurd h (by decide +kernel)) (fun h => ?_)
    refine sxs_nil ?_
    refine sxs_unpack (tg_tup c.calm (tgs_cons 5 c.nd (tgs_cons 6 c.nd tgs_nil))) (ev_ixL (Bv.bw (Ev.bv (ev_var 2 rfl))) (ev_var 4 rfl) (atI_map plD (plAt_get hs))) rfl ?_
    refine sxs_if (tst_cm (cm_eqS (ev_var 3 rfl) ev_str)) (fun h => ?_) (fun h => absurd h (by decide +kernel))
    exact sxs_ret (ev_call c G_figures_of (fm.first + (plAt ps k).1) (lt1 k) (fun _ h => h) (as_cons (Ev.s ((ev_add (ev_ixT (ev_var 0 rfl) ev_int rfl) (ev_var 5 rfl)).to (by rw [Int.natCast_add]))) as_nil)) rfl
  | rw k =>
    refine sxs_unpack (tg_tup c.calm (tgs_cons 3 c.nd (tgs_cons 4 c.nd tgs_nil))) (ev_var 1 rfl) rfl ?_
    refine sxs_if (tst_cm (cm_eqS (ev_var 3 rfl) ev_str)) (fun h => absurd h (by decide +kernel)) (fun h => ?_)
    refine sxs_nil ?_
    refine sxs_unpack (tg_tup c.calm (tgs_cons 5 c.nd (tgs_cons 6 c.nd tgs_nil))) (ev_ixL (Bv.bw (Ev.bv (ev_var 2 rfl))) (ev_var 4 rfl) (atI_map plD (plAt_get hs))) rfl ?_
    refine sxs_if (tst_cm (cm_eqS (ev_var 3 rfl) ev_str)) (fun h => absurd h (by decide +kernel)) (fun h => ?_)
    refine sxs_nil ?_
    have hb := (hp.2 k).1
    exact sxs_ret (ev_call c G_figures_of ((plAt ps k).1 * fm.high + (plAt ps k).2 + 1) (lt2 k) (fun _ h => h) (as_cons (Ev.s ((ev_add (ev_add (ev_mul (.inl ⟨by omega, by omega⟩) (ev_var 5 rfl) (ev_ixT (ev_var 0 rfl) ev_int rfl)) (ev_var 6 rfl)) ev_int).to (by simp))) as_nil)) rfl
abbrev C_said_by (P : Program) (w : World) (K : PySem.W.Frag) (mg : Str → Option Value) (base : Heap) (C : Ec → Addr) := Callee P w K mg base 1 "_law_said_by" (spP K C 3 insSay preSay (fun i => is (.ok (fz (.str (said i.1 i.2.2 i.2.1))))))
theorem ok_said_by (Bt : Blt mg) (D : Df K mg "_law_said_by" s_law_said_by) : C_said_by P w K mg base C := by
  refine callee_of D sc_law_said_by (fun _ _ _ _ _ _ us hl => match us, hl with | [_, _, _], _ => rfl) (fun f cdv A outer s H E c i hi => ?_)
  obtain ⟨fm, sy, ps⟩ := i
  obtain ⟨hf, hp, hs⟩ := hi
  simp only at hf hp hs
  show Sxs _ _ _ [some (fz (frD fm)), some (fz (sayD sy)), some (fz (.list (ps.map plD))), none, none] _
  have lt1 : ∀ k, fm.first + (plAt ps k).1 < 10 ^ 100 := fun k => Nat.lt_of_lt_of_le (num1 hf hp k) (by decide +kernel)
  have lt2 : ∀ k, (plAt ps k).1 * fm.high + (plAt ps k).2 + 1 < 10 ^ 100 := fun k => Nat.lt_of_lt_of_le (num2 hf hp k) (by decide +kernel)
  cases sy with
  | txt t =>
    refine sxs_if (tst_cm (cm_eqS (ev_ixT (ev_var 1 rfl) ev_int rfl) ev_str)) (fun h => ?_) (fun h => absurd h (by decide +kernel))
    exact sxs_ret (ev_ixT (ev_var 1 rfl) ev_int rfl) rfl
  | pg k =>
    refine sxs_if (tst_cm (cm_eqS (ev_ixT (ev_var 1 rfl) ev_int rfl) ev_str)) (fun h => absurd h (by decide +kernel)) (fun h => ?_)
    refine sxs_nil ?_
    refine sxs_unpack (tg_tup c.calm (tgs_cons 3 c.nd (tgs_cons 4 c.nd tgs_nil))) (ev_ixL (Bv.bw (Ev.bv (ev_var 2 rfl))) (ev_ixT (ev_var 1 rfl) ev_int rfl) (atI_map plD (plAt_get hs))) rfl ?_
    refine sxs_if (tst_cm (cm_eqS (ev_ixT (ev_var 1 rfl) ev_int rfl) ev_str)) (fun h => ?_) (fun h => absurd h (by decide +kernel))
    exact sxs_ret (ev_strI Bt ((ev_add (ev_ixT (ev_var 0 rfl) ev_int rfl) (ev_var 3 rfl)).to (e := .int ((fm.first + (plAt ps k).1 : Nat) : Int)) (by rw [Int.natCast_add])) (log2_small (lt1 k))) rfl
  | rw k =>
    refine sxs_if (tst_cm (cm_eqS (ev_ixT (ev_var 1 rfl) ev_int rfl) ev_str)) (fun h => absurd h (by decide +kernel)) (fun h => ?_)
    refine sxs_nil ?_
    refine sxs_unpack (tg_tup c.calm (tgs_cons 3 c.nd (tgs_cons 4 c.nd tgs_nil))) (ev_ixL (Bv.bw (Ev.bv (ev_var 2 rfl))) (ev_ixT (ev_var 1 rfl) ev_int rfl) (atI_map plD (plAt_get hs))) rfl ?_
    refine sxs_if (tst_cm (cm_eqS (ev_ixT (ev_var 1 rfl) ev_int rfl) ev_str)) (fun h => absurd h (by decide +kernel)) (fun h => ?_)
    refine sxs_nil ?_
    have hb := (hp.2 k).1
    exact sxs_ret (ev_strI Bt ((ev_add (ev_add (ev_mul (.inl ⟨by omega, by omega⟩) (ev_var 3 rfl) (ev_ixT (ev_var 0 rfl) ev_int rfl)) (ev_var 4 rfl)) ev_int).to (e := .int (((plAt ps k).1 * fm.high + (plAt ps k).2 + 1 : Nat) : Int)) (by simp)) (log2_small (lt2 k))) rfl
end
end Tl

/-! Pages as plain data. -/
namespace Tl
open PySem PySem.Spec PyProof.Rows L2 PV
abbrev Page := Int × List Str
def pgD (p : Page) : PyData := .tuple [.int p.1, .list (p.2.map .str)]
def pgT (p : Page) : T := .tup none [.fz (.int p.1), .lst none ((p.2.map .str).map .fz)]
theorem pgT_er (p : Page) : (pgT p).er = pgD p := by
  rw [pgT, pgD, er_tup, List.map_cons, List.map_cons, List.map_nil, er_fz, er_lst, map_fz]
theorem pgT_to (n : Int) (rows : List Str) : T.tup none [.fz (.int n), .lst none ((rows.map PyData.str).map .fz)] = pgT (n, rows) := rfl
def okP (p : Page) : Prop := ∀ r ∈ p.2, PyData.strOk r = true
theorem pg_cl {p : Page} (h : okP p) : cl 2 (pgD p) = true := by
  have a : cl 1 (.int p.1) = true := rfl
  have b := strs_cl h
  simp only [pgD, cl.eq_def 2, List.all_cons, List.all_nil, a, b, Bool.and_self]
theorem pl_cl (p : Plc) : cl 1 (plD p) = true := rfl
theorem pls_cl (ps : List Plc) : cl 2 (.list (ps.map plD)) = true := cl_list fun p _ => pl_cl p
/-! ### what stands in the rows -/
abbrev Item := Plc × Wrd
def bodyAt (f : Frm) (ps : List Plc) (p : Plc) (L : List Item) : Option Str := L.foldl (fun acc x => if x.1 = p then some (match acc with | none => said f ps x.2.own | some t => t ++ (" " : Str) ++ said f ps x.2.own) else acc) none
def feetAt (f : Frm) (ps : List Plc) (g : Nat) (L : List Item) : List Str := L.foldl (fun acc x => if x.1.1 = g then acc ++ filled f ps x.2.foot else acc) []
def pageAt (f : Frm) (ps : List Plc) (L : List Item) (g : Nat) : Page :=
  (((f.first + g : Nat) : Int), ((List.range (f.high - (feetAt f ps g L).length)).map fun r => (bodyAt f ps (g, r) L).getD ("" : Str)) ++ feetAt f ps g L)
def manyOf (ps : List Plc) : Nat := match ps.getLast? with
  | none => 0
  | some p => p.1 + 1
def pagesOf (f : Frm) (ws : List Wrd) (ps : List Plc) : List Page := (List.range (manyOf ps)).map (pageAt f ps (ps.zip ws))
structure okWrd (n : Nat) (w : Wrd) : Prop where
  own : okSay n w.own
  foot : w.foot.length ≤ 100 ∧ ∀ s ∈ w.foot, okSay n s
/-- a book and places that go with it -/
structure okBk (f : Frm) (ws : List Wrd) (ps : List Plc) : Prop where
  frm : okFrm f
  pls : okPls ps
  len : ws.length = ps.length
  wrd : ∀ w ∈ ws, okWrd ps.length w
def okRow (r : Str) : Prop := PyData.strOk r = true ∧ r.length ≤ 1000000
theorem said_row {f : Frm} {ps : List Plc} {s : Say} {n : Nat} (hf : okFrm f) (hp : okPls ps) (hs : okSay n s) : okRow (said f ps s) := ⟨said_ok hs, Nat.le_trans (said_len hf hp hs) (by decide)⟩
theorem sp_ok : PyData.strOk (" " : Str) = true := by decide +kernel
theorem fill1_row {f : Frm} {rows : List Str} {t : Str} (hf : okFrm f) (h : ∀ r ∈ rows, okRow r) (ht : okRow t) : ∀ r ∈ fill1 f.wide rows t, okRow r := by
  unfold fill1
  cases e : rows.getLast? with
  | none =>
    intro r hr
    rcases List.mem_append.mp hr with z | z
    · exact h r z
    · have : r = t := by simpa using z
      subst this; exact ht
  | some l =>
    show ∀ r ∈ (if l.length + 1 + t.length ≤ f.wide then rows.set (rows.length - 1) (l ++ (" " : Str) ++ t) else rows ++ [t]), okRow r
    split
    · rename_i hw
      intro r hr
      rcases List.mem_or_eq_of_mem_set hr with z | z
      · exact h r z
      · subst z
        refine ⟨app_strOk (app_strOk (h l (List.mem_of_getLast? e)).1 sp_ok) ht.1, ?_⟩
        rw [app_size, app_size]
        have := hf.1
        show l.length + 1 + t.length ≤ _
        omega
    · intro r hr
      rcases List.mem_append.mp hr with z | z
      · exact h r z
      · have : r = t := by simpa using z
        subst this; exact ht
theorem filled_row {f : Frm} {ps : List Plc} {foot : List Say} {n : Nat} (hf : okFrm f) (hp : okPls ps) (hs : ∀ s ∈ foot, okSay n s) : (∀ r ∈ filled f ps foot, okRow r) ∧ (filled f ps foot).length ≤ foot.length := by
  unfold filled
  have key : ∀ (foot : List Say) (rows : List Str), (∀ s ∈ foot, okSay n s) → (∀ r ∈ rows, okRow r) → (∀ r ∈ (foot.map (said f ps)).foldl (fill1 f.wide) rows, okRow r) ∧ ((foot.map (said f ps)).foldl (fill1 f.wide) rows).length ≤ rows.length + foot.length := by
    intro foot
    induction foot with
    | nil => intro rows _ h; exact ⟨h, by simp⟩
    | cons s foot ih =>
      intro rows hs h
      have h1 := fill1_row hf h (said_row hf hp (hs s List.mem_cons_self))
      obtain ⟨a, b⟩ := ih _ (fun s' h' => hs s' (List.mem_cons_of_mem _ h')) h1
      refine ⟨a, ?_⟩
      have := fill1_len f.wide rows (said f ps s)
      rw [List.map_cons, List.foldl_cons, List.length_cons]
      omega
  obtain ⟨a, b⟩ := key foot [] hs (fun _ h => nomatch h)
  exact ⟨a, by simpa using b⟩
theorem take_zip_succ {ps : List Plc} {ws : List Wrd} {i : Nat} {p : Plc} {w : Wrd} (h1 : ps[i]? = some p) (h2 : ws[i]? = some w) : (ps.zip ws).take (i + 1) = (ps.zip ws).take i ++ [(p, w)] := by
  have : (ps.zip ws)[i]? = some (p, w) := List.getElem?_zip_eq_some.mpr ⟨h1, h2⟩
  rw [List.take_add_one, this]
  rfl
theorem bodyAt_snoc (f : Frm) (ps : List Plc) (p : Plc) (L : List Item) (x : Item) : bodyAt f ps p (L ++ [x]) = if x.1 = p then some (match bodyAt f ps p L with | none => said f ps x.2.own | some t => t ++ (" " : Str) ++ said f ps x.2.own) else bodyAt f ps p L := by
  unfold bodyAt; rw [List.foldl_append]; rfl
theorem feetAt_snoc (f : Frm) (ps : List Plc) (g : Nat) (L : List Item) (x : Item) : feetAt f ps g (L ++ [x]) = if x.1.1 = g then feetAt f ps g L ++ filled f ps x.2.foot else feetAt f ps g L := by
  unfold feetAt; rw [List.foldl_append]; rfl
theorem snocRec {α : Type} {Q : List α → Prop} (h0 : Q []) (h1 : ∀ L x, Q L → Q (L ++ [x])) (L : List α) : Q L := by
  have key : ∀ M : List α, Q M.reverse := by
    intro M
    induction M with
    | nil => exact h0
    | cons x M ih => rw [List.reverse_cons]; exact h1 _ _ ih
  have := key L.reverse
  rwa [List.reverse_reverse] at this
theorem bodyAt_ok {f : Frm} {ps : List Plc} {n : Nat} (hf : okFrm f) (hp : okPls ps) (p : Plc) : ∀ L : List Item, (∀ x ∈ L, okWrd n x.2) → ∀ t, bodyAt f ps p L = some t → PyData.strOk t = true ∧ t.length ≤ 101 * L.length := by
  refine snocRec (fun _ t h => by cases h) fun L x ih => ?_
  · intro hL t h
    have ih := ih fun y hy => hL y (List.mem_append_left _ hy)
    have hx := hL x (List.mem_append_right _ List.mem_cons_self)
    have h1 := said_len hf hp hx.own
    have h2 : PyData.strOk (said f ps x.2.own) = true := said_ok hx.own
    rw [bodyAt_snoc] at h
    rw [List.length_append, List.length_singleton]
    split at h
    · cases e : bodyAt f ps p L with
      | none =>
        rw [e] at h
        cases h
        exact ⟨h2, by show (said f ps x.2.own).length ≤ _; omega⟩
      | some u =>
        rw [e] at h
        cases h
        obtain ⟨a, b⟩ := ih u e
        refine ⟨app_strOk (app_strOk a sp_ok) h2, ?_⟩
        show (u ++ (" " : Str) ++ said f ps x.2.own).length ≤ _
        rw [app_size, app_size]
        show u.length + 1 + _ ≤ _
        omega
    · obtain ⟨a, b⟩ := ih t h
      exact ⟨a, by omega⟩
theorem feetAt_ok {f : Frm} {ps : List Plc} {n : Nat} (hf : okFrm f) (hp : okPls ps) (g : Nat) : ∀ L : List Item, (∀ x ∈ L, okWrd n x.2) → (∀ r ∈ feetAt f ps g L, okRow r) ∧ (feetAt f ps g L).length ≤ 100 * L.length := by
  refine snocRec (fun _ => ⟨(fun _ h => nomatch h), by simp [feetAt]⟩) fun L x ih => ?_
  · intro hL
    obtain ⟨a, b⟩ := ih fun y hy => hL y (List.mem_append_left _ hy)
    have hx := hL x (List.mem_append_right _ List.mem_cons_self)
    obtain ⟨c, d⟩ := filled_row hf hp hx.foot.2
    have h100 := hx.foot.1
    rw [feetAt_snoc, List.length_append, List.length_singleton]
    split
    · refine ⟨fun r hr => ?_, by rw [List.length_append]; omega⟩
      rcases List.mem_append.mp hr with z | z
      · exact a r z
      · exact c r z
    · exact ⟨a, by omega⟩
end Tl

/-! The pages of a book: the walk. -/
namespace Tl
open PySem PySem.Spec PyProof.Rows L2 PV
def plK (p : Plc) : List Key := [.inl p.1, .inl p.2]
theorem plK_inj {p q : Plc} (h : plK p = plK q) : p = q := by
  have h : [Sum.inl (p.1 : Int), Sum.inl (p.2 : Int)] = ([Sum.inl (q.1 : Int), Sum.inl (q.2 : Int)] : List Key) := h
  injection h with h1 h2
  injection h2 with h2 _
  have h1 := Sum.inl.inj h1
  have h2 := Sum.inl.inj h2
  exact Prod.ext (by omega) (by omega)
def highGo (wide high : Nat) : Nat → Nat → List Nat → Nat
  | rows, _, [] => min rows high
  | rows, used, s :: ss => if wide < s then high else if 0 < rows ∧ used + 1 + s ≤ wide then highGo wide high rows (used + 1 + s) ss else highGo wide high (rows + 1) s ss
def highBy (f : Frm) (ps : List Plc) (foot : List Say) : Nat := highGo f.wide f.high 0 0 (foot.map fun s => (said f ps s).length)
section
variable {P : Program} {w : World} {K : PySem.W.Frag} {mg : Str → Option Value} {base : Heap} {C : Ec → Addr}
abbrev InFoot := Frm × List Say × List Plc
abbrev insFoot (i : InFoot) : List Slot := [fz (frD i.1), fz (.list (i.2.1.map sayD)), fz (.list (i.2.2.map plD))]
abbrev preFoot (i : InFoot) : Prop := okFrm i.1 ∧ okPls i.2.2 ∧ i.2.1.length ≤ 100 ∧ ∀ s ∈ i.2.1, okSay i.2.2.length s
abbrev C_foot_rows (P : Program) (w : World) (K : PySem.W.Frag) (mg : Str → Option Value) (base : Heap) (C : Ec → Addr) := Callee P w K mg base 3 "foot_rows" (spP K C 3 insFoot preFoot (fun i => is (.ok (ow none ((filled i.1 i.2.2 i.2.1).map .str)))))
theorem ok_foot_rows (Bt : Blt mg) (G_said : C_said P w K mg base C) (D : Df K mg "foot_rows" s_foot_rows) : C_foot_rows P w K mg base C := by
  refine callee_of D sc_foot_rows (fun _ _ _ _ _ _ us hl => match us, hl with | [_, _, _], _ => rfl) (fun f cdv A outer s H E c i hi => ?_)
  obtain ⟨fm, foot, ps⟩ := i
  obtain ⟨hf, hp, hl, hs⟩ := hi
  simp only at hf hp hl hs
  show Sxs _ _ _ [some (fz (frD fm)), some (fz (.list (foot.map sayD))), some (fz (.list (ps.map plD))), none, none, none] _
  refine sxs_setF 3 (fr_lst eva_nil) ?_ c.nd
  refine sxs_forL sayD foot (fun rows : List Str => [some (fz (frD fm)), some (fz (.list (foot.map sayD))), some (fz (.list (ps.map plD))), some (ow none (rows.map .str)), none, none]) (fun rows ys => (ys.map (said fm ps)).foldl (fill1 fm.wide) rows = filled fm ps foot ∧ (∀ r ∈ rows, okRow r) ∧ rows.length + ys.length ≤ 1000 ∧ ∀ y ∈ ys, okSay ps.length y) []
    c (iv_list (ev_var 1 rfl)) (tg_name 4 c.nd) (Wk.refl _) ⟨rfl, (fun _ h => nomatch h), by simp; omega, hs⟩ (fun rows y ys hR => ⟨⟨(fun h => nomatch h), rfl⟩, ?_⟩) (fun rows hR => ?_)
  · obtain ⟨hR, hrow, hlen, hys⟩ := hR
    have hy := hys y List.mem_cons_self
    have ht := said_row hf hp hy
    have hnew := fill1_row hf hrow ht
    have hfl := fill1_len fm.wide rows (said fm ps y)
    rw [List.length_cons] at hlen
    have done : ∀ rows', fill1 fm.wide rows (said fm ps y) = rows' → (ys.map (said fm ps)).foldl (fill1 fm.wide) rows' = filled fm ps foot ∧ (∀ r ∈ rows', okRow r) ∧ rows'.length + ys.length ≤ 1000 ∧ ∀ y ∈ ys, okSay ps.length y := fun rows' e => by
      subst e
      exact ⟨hR, hnew, by omega, fun y' h' => hys y' (List.mem_cons_of_mem _ h')⟩
    have hclr := strs_cl fun x hx => (hrow x hx).1
    show Sxs _ _ _ [some (fz (frD fm)), some (fz (.list (foot.map sayD))), some (fz (.list (ps.map plD))), some (ow none (rows.map .str)), some (fz (sayD y)), none] _
    refine sxs_set 5 ((ev_call c G_said (fm, y, ps) ⟨hf, hp, hy⟩ (fun _ h => h) (as_cons (Ev.s (ev_var 0 rfl)) (as_cons (Ev.s (ev_var 4 rfl)) (as_cons (Ev.s (ev_var 2 rfl)) as_nil)))).to (e := .str (said fm ps y)) rfl) ?_ c.nd
    have hwide := hf.1
    cases e : rows.getLast? with
    | none =>
      have en : rows = [] := List.getLast?_eq_none_iff.mp e
      have d1 := done (rows ++ [said fm ps y]) (by unfold fill1; rw [e])
      refine sxs_if (t := false) (tst_and2 (q := false) (tst_cm (cm_neD c (Bv.rv (bv_var 3 rfl)) (Bv.rv (Fr.bv (fr_lst eva_nil))) (cl_shaped hclr) (cl_shaped nil_cl))) (fun h => absurd h (by rw [eqv_nil]; simp [en])) (by rw [eqv_nil]; simp [en])) (fun h => nomatch h) (fun h => ?_)
      refine sxs_append 3 rfl (ev_var 5 rfl) (szl' (by rw [List.length_map]; omega)) ?_
      refine sxs_nil ?_
      refine sxs_nil ⟨_, Wk.of ?_, rows ++ [said fm ps y], rfl, d1⟩
      rw [List.map_append]
      exact wkl_some rfl (wkl_some rfl (wkl_some rfl (wkl_some rfl (wkl_none (wkl_none wkl_nil)))))
    | some r =>
      have hr := hrow r (List.mem_of_getLast? e)
      have hne : 0 < rows.length := by
        cases rows with
        | nil => simp at e
        | cons => simp
      have hn : ¬ (rows.map PyData.str = []) := by
        intro h
        have h := List.map_eq_nil_iff.mp h
        subst h
        simp at e
      have t1 := ht.2
      have r1 := hr.2
      refine sxs_if (t := decide (r.length + 1 + (said fm ps y).length ≤ fm.wide)) (tst_and2 (tst_cm (cm_neD c (Bv.rv (bv_var 3 rfl)) (Bv.rv (Fr.bv (fr_lst eva_nil))) (cl_shaped hclr) (cl_shaped nil_cl)))
        (fun _ => tst_cm (cm_le (ev_add (ev_add (ev_lenS Bt (ev_ixL (Bv.bw (bv_var 3 rfl)) (ev_neg ev_int) (atI_last PyData.str e)) (szm (by omega))) ev_int) (ev_lenS Bt (ev_var 5 rfl) (szm (by omega)))) (ev_ixT (ev_var 0 rfl) ev_int rfl))) (by rw [eqv_nil, decide_eq_false hn, Bool.not_false, Bool.true_and, decide_eq_decide]; omega)) (fun h => ?_) (fun h => ?_)
      · have h1 : r.length + 1 + (said fm ps y).length ≤ fm.wide := by simpa using h
        have d1 := done (rows.set (rows.length - 1) (r ++ (" " : Str) ++ said fm ps y)) (by unfold fill1; rw [e]; exact if_pos h1)
        refine sxs_setItem (n := rows.length - 1) 3 rfl (ev_adds (szm (by rw [app_size]; show r.length + 1 + _ ≤ _; omega)) (ev_adds (szm (by show r.length + 1 ≤ _; omega)) (ev_ixL (Bv.bw (bv_var 3 rfl)) (ev_neg ev_int) (atI_last PyData.str e)) ev_str) (ev_var 5 rfl)) (ev_neg ev_int) (by rw [List.length_map]; exact ixN_last hne) ?_
        refine sxs_nil ?_
        refine sxs_nil ⟨_, Wk.of ?_, _, rfl, d1⟩
        rw [List.map_set]
        exact wkl_some rfl (wkl_some rfl (wkl_some rfl (wkl_some rfl (wkl_none (wkl_none wkl_nil)))))
      · have h1 : ¬ r.length + 1 + (said fm ps y).length ≤ fm.wide := by simpa using h
        have d1 := done (rows ++ [said fm ps y]) (by unfold fill1; rw [e]; exact if_neg h1)
        refine sxs_append 3 rfl (ev_var 5 rfl) (szl' (by rw [List.length_map]; omega)) ?_
        refine sxs_nil ?_
        refine sxs_nil ⟨_, Wk.of ?_, rows ++ [said fm ps y], rfl, d1⟩
        rw [List.map_append]
        exact wkl_some rfl (wkl_some rfl (wkl_some rfl (wkl_some rfl (wkl_none (wkl_none wkl_nil)))))
  · refine sxs_retO 3 rfl ?_
    show _ = _
    rw [← hR.1]
    rfl
abbrev C_high_by (P : Program) (w : World) (K : PySem.W.Frag) (mg : Str → Option Value) (base : Heap) (C : Ec → Addr) := Callee P w K mg base 2 "_law_high_by" (spP K C 3 insFoot preFoot (fun i => is (.ok (fz (.int (highBy i.1 i.2.2 i.2.1))))))
theorem ok_high_by (Bt : Blt mg) (G_said_by : C_said_by P w K mg base C) (D : Df K mg "_law_high_by" s_law_high_by) : C_high_by P w K mg base C := by
  refine callee_of D sc_law_high_by (fun _ _ _ _ _ _ us hl => match us, hl with | [_, _, _], _ => rfl) (fun f cdv A outer s H E c i hi => ?_)
  obtain ⟨fm, foot, ps⟩ := i
  obtain ⟨hf, hp, hl, hs⟩ := hi
  simp only at hf hp hl hs
  show Sxs _ _ _ [some (fz (frD fm)), some (fz (.list (foot.map sayD))), some (fz (.list (ps.map plD))), none, none, none, none] _
  refine sxs_set 3 ev_int ?_ c.nd
  refine sxs_set 4 ev_int ?_ c.nd
  refine sxs_forL sayD foot (fun s : Nat × Nat => [some (fz (frD fm)), some (fz (.list (foot.map sayD))), some (fz (.list (ps.map plD))), some (fz (.int s.1)), some (fz (.int s.2)), none, none]) (fun s ys => highGo fm.wide fm.high s.1 s.2 (ys.map fun y => (said fm ps y).length) = highBy fm ps foot ∧ ∀ y ∈ ys, okSay ps.length y) (0, 0)
    c (iv_list (ev_var 1 rfl)) (tg_name 5 c.nd) (Wk.refl _) ⟨rfl, hs⟩ (fun s y ys hR => ⟨⟨(fun h => nomatch h), rfl⟩, ?_⟩) (fun s hR => ?_)
  · obtain ⟨hR, hys⟩ := hR
    obtain ⟨rows, used⟩ := s
    have hy := hys y List.mem_cons_self
    have hys := fun y' h' => hys y' (List.mem_cons_of_mem _ h')
    have hsz := said_len hf hp hy
    show Sxs _ _ _ [some (fz (frD fm)), some (fz (.list (foot.map sayD))), some (fz (.list (ps.map plD))), some (fz (.int rows)), some (fz (.int used)), some (fz (sayD y)), none] _
    refine sxs_set 6 (ev_lenS Bt ((ev_call c G_said_by (fm, y, ps) ⟨hf, hp, hy⟩ (fun _ h => h) (as_cons (Ev.s (ev_var 0 rfl)) (as_cons (Ev.s (ev_var 5 rfl)) (as_cons (Ev.s (ev_var 2 rfl)) as_nil)))).to (e := .str (said fm ps y)) rfl) (szl (by omega))) ?_ c.nd
    rw [List.map_cons, highGo] at hR
    refine sxs_if (t := decide (fm.wide < (said fm ps y).length)) ((tst_cm (cm_gt (ev_var 6 rfl) (ev_ixT (ev_var 0 rfl) ev_int rfl))).to (by rw [decide_eq_decide]; omega)) (fun h => ?_) (fun h => ?_)
    · have h1 : fm.wide < (said fm ps y).length := by simpa using h
      rw [if_pos h1] at hR
      refine sxs_ret (ev_ixT (ev_var 0 rfl) ev_int rfl) ?_
      show _ = _
      rw [← hR]
    · have h1 : ¬ fm.wide < (said fm ps y).length := by simpa using h
      rw [if_neg h1] at hR
      refine sxs_nil ?_
      refine sxs_if (t := decide (0 < rows ∧ used + 1 + (said fm ps y).length ≤ fm.wide)) (tst_and2 (tst_cm (cm_gt (ev_var 3 rfl) ev_int)) (fun _ => tst_cm (cm_le (ev_add (ev_add (ev_var 4 rfl) ev_int) (ev_var 6 rfl)) (ev_ixT (ev_var 0 rfl) ev_int rfl))) (by rw [← Bool.decide_and, decide_eq_decide]; omega)) (fun h => ?_) (fun h => ?_)
      · have h2 : 0 < rows ∧ used + 1 + (said fm ps y).length ≤ fm.wide := by simpa using h
        rw [if_pos h2] at hR
        refine sxs_set 4 (ev_add (ev_add (ev_var 4 rfl) ev_int) (ev_var 6 rfl)) ?_ c.nd
        refine sxs_nil ?_
        exact sxs_nil ⟨_, Wk.of (wkl_some rfl (wkl_some rfl (wkl_some rfl (wkl_some rfl (wkl_some rfl (wkl_none (wkl_none wkl_nil))))))), (rows, used + 1 + (said fm ps y).length), rfl, hR, hys⟩
      · have h2 : ¬ (0 < rows ∧ used + 1 + (said fm ps y).length ≤ fm.wide) := by simpa using h
        rw [if_neg h2] at hR
        refine sxs_set 3 (ev_add (ev_var 3 rfl) ev_int) ?_ c.nd
        refine sxs_set 4 (ev_var 6 rfl) ?_ c.nd
        refine sxs_nil ?_
        exact sxs_nil ⟨_, Wk.of (wkl_some rfl (wkl_some rfl (wkl_some rfl (wkl_some rfl (wkl_some rfl (wkl_none (wkl_none wkl_nil))))))), (rows + 1, (said fm ps y).length), rfl, hR, hys⟩
  · obtain ⟨rows, used⟩ := s
    refine sxs_ret (ev_min c Bt (ev_var 3 rfl) (ev_ixT (ev_var 0 rfl) ev_int rfl)) ?_
    show _ = _
    rw [← hR.1]
    show Except.ok (fz (.int (min (rows : Int) (fm.high : Int)))) = .ok (fz (.int ((min rows fm.high : Nat) : Int)))
    congr 3
    omega
end
end Tl

/-! The pages of a book: the dicts and the pages. -/
namespace Tl
open PySem PySem.Spec PyProof.Rows L2 PV
section
variable {P : Program} {w : World} {K : PySem.W.Frag} {mg : Str → Option Value} {base : Heap} {C : Ec → Addr}
abbrev InBk := Frm × List Wrd × List Plc
abbrev insBk (i : InBk) : List Slot := [fz (bkD (i.1, i.2.1)), fz (.list (i.2.2.map plD))]
abbrev preBk (i : InBk) : Prop := okBk i.1 i.2.1 i.2.2
theorem okBk.items {f : Frm} {ws : List Wrd} {ps : List Plc} (h : okBk f ws ps) (i : Nat) : ∀ x ∈ (ps.zip ws).take i, okWrd ps.length x.2 := fun x hx => h.wrd x.2 (List.of_mem_zip (List.mem_of_mem_take hx)).2
theorem zip_len {f : Frm} {ws : List Wrd} {ps : List Plc} (h : okBk f ws ps) (i : Nat) : ((ps.zip ws).take i).length ≤ 100 := by
  have := h.pls.1
  rw [List.length_take, List.length_zip]
  omega
abbrev C_body_rows (P : Program) (w : World) (K : PySem.W.Frag) (mg : Str → Option Value) (base : Heap) (C : Ec → Addr) := Callee P w K mg base 3 "body_rows" (spP K C 2 insBk preBk (fun i o => ∃ kvs, o = .ok (dt kvs) ∧ ∀ p : Plc, getP kvs (plK p) = (bodyAt i.1 i.2.2 p (i.2.2.zip i.2.1)).map PyData.str))
theorem ok_body_rows (Bt : Blt mg) (G_said : C_said P w K mg base C) (D : Df K mg "body_rows" s_body_rows) : C_body_rows P w K mg base C := by
  refine callee_of D sc_body_rows (fun _ _ _ _ _ _ us hl => match us, hl with | [_, _], _ => rfl) (fun f cdv A outer s H E c i hi => ?_)
  obtain ⟨fm, ws, ps⟩ := i
  have hi : okBk fm ws ps := hi
  show Sxs _ _ _ [some (fz (bkD (fm, ws))), some (fz (.list (ps.map plD))), none, none, none, none, none] _
  refine sxs_setS 2 s_dt ?_ c.nd
  refine sxs_for c (fun k ρ => ∃ kvs, ρ = [some (fz (bkD (fm, ws))), some (fz (.list (ps.map plD))), some (dt kvs), none, none, none, none] ∧ kvs.length ≤ k ∧ ∀ p : Plc, getP kvs (plK p) = (bodyAt fm ps p ((ps.zip ws).take k)).map PyData.str)
    (iv_enum Bt (ev_ixT (ev_var 0 rfl) ev_int rfl)) (tg_tup c.calm (tgs_cons 3 c.nd (tgs_cons 4 c.nd tgs_nil))) ⟨[], rfl, Nat.le_refl _, fun p => rfl⟩ (fun k d ρ hd hP => ?_) (fun ρ hP => ?_)
  · obtain ⟨kvs, rfl, hkl, hk⟩ := hP
    obtain ⟨e, he, rfl⟩ := enums_of hd
    rw [List.getElem?_map] at he
    obtain ⟨wd, hw, rfl⟩ := Option.map_eq_some_iff.mp he
    have hkw : k < ws.length := (List.getElem?_eq_some_iff.mp hw).1
    have hkp : k < ps.length := hi.len ▸ hkw
    have h100 := hi.pls.1
    have hwd := hi.wrd wd (List.mem_of_getElem? hw)
    have hp := plAt_get hkp
    generalize plAt ps k = p at hp
    have htk := take_zip_succ hp hw
    have hb := bodyAt_ok hi.frm hi.pls p _ (hi.items k)
    have hz := zip_len hi k
    have hsl := said_len hi.frm hi.pls hwd.own
    refine ⟨⟨fun _ => ⟨_, rfl⟩, rfl⟩, ?_⟩
    show Sxs _ _ _ [some (fz (bkD (fm, ws))), some (fz (.list (ps.map plD))), some (dt kvs), some (fz (.int k)), some (fz (wdD wd)), none, none] _
    refine sxs_set 5 (ev_ixL (Bv.bw (Ev.bv (ev_var 1 rfl))) (ev_var 3 rfl) (atI_map plD hp)) ?_ c.nd
    refine sxs_set 6 ((ev_call c G_said (fm, wd.own, ps) ⟨hi.frm, hi.pls, hwd.own⟩ (fun _ h => h) (as_cons (Ev.s (ev_ixT (ev_var 0 rfl) ev_int rfl)) (as_cons (Ev.s (ev_ixT (ev_var 4 rfl) ev_int rfl)) (as_cons (Ev.s (ev_var 1 rfl)) as_nil)))).to (e := .str (said fm ps wd.own)) rfl) ?_ c.nd
    have hkp' := hk p
    have last : ∀ t : Str, bodyAt fm ps p ((ps.zip ws).take (k + 1)) = some t → Sxs (cxD P w K mg base ["book", "places", "rows", "k", "word", "place", "text"] "body_rows" s_body_rows f cdv A outer s H E) (fun c σ H => E (.ref (C c)) none H) (match defBody s_body_rows with | [_, .For _ _ [_, _, _, l] _ _, _] => [l] | _ => []) [some (fz (bkD (fm, ws))), some (fz (.list (ps.map plD))), some (dt kvs), some (fz (.int k)), some (fz (wdD wd)), some (fz (plD p)), some (fz (.str t))]
        (turnS (fun ρ => ∃ kvs, ρ = [some (fz (bkD (fm, ws))), some (fz (.list (ps.map plD))), some (dt kvs), none, none, none, none] ∧ kvs.length ≤ k + 1 ∧ ∀ p : Plc, getP kvs (plK p) = (bodyAt fm ps p ((ps.zip ws).take (k + 1))).map PyData.str) (cxD P w K mg base ["book", "places", "rows", "k", "word", "place", "text"] "body_rows" s_body_rows f cdv A outer s H E) (fun c σ H => E (.ref (C c)) none H) (match defBody s_body_rows with | [_, _, l] => [l] | _ => []) (bodyS fun o => ∃ kvs, o = .ok (dt kvs) ∧ ∀ p : Plc, getP kvs (plK p) = (bodyAt fm ps p (ps.zip ws)).map PyData.str)) := fun t ht => by
      refine sxs_dputT (y := plK p) 2 c rfl (ev_var 6 rfl) (ev_var 5 rfl) (szl' (by omega)) ?_
      refine sxs_nil ⟨_, Wk.of ?_, putP kvs (plK p) (.str t), rfl, by have := putP_len kvs (plK p) (.str t); omega, fun q => ?_⟩
      · exact wkl_some rfl (wkl_some rfl (wkl_some rfl (wkl_none (wkl_none (wkl_none (wkl_none wkl_nil))))))
      · rw [getP_put]
        by_cases e : q = p
        · subst e
          rw [if_pos rfl, ht]
          rfl
        · rw [if_neg fun z => e (plK_inj z), hk q, htk, bodyAt_snoc, if_neg fun z => e z.symm]
    refine sxs_if (t := (bodyAt fm ps p ((ps.zip ws).take k)).isSome) ((tst_cm (cm_inDc c (ev_var 5 rfl) (dc_t 2 (plK p) rfl))).to (by rw [hkp', Option.isSome_map])) (fun h => ?_) (fun h => ?_)
    · obtain ⟨u, hu⟩ := Option.isSome_iff_exists.mp h
      rw [hu] at hkp'
      have hul := (hb u hu).2
      refine sxs_set 6 (ev_adds (szm (by show (u ++ (" " : Str)).length + _ ≤ _; rw [app_size]; show u.length + 1 + _ ≤ _; omega)) (ev_adds (szm (by show u.length + 1 ≤ _; omega)) (ev_dget c ((dc_t 2 (plK p) rfl).to hkp') (ev_var 5 rfl)) ev_str) (ev_var 6 rfl)) ?_ c.nd
      refine sxs_nil ?_
      refine last (u ++ (" " : Str) ++ said fm ps wd.own) ?_
      rw [htk, bodyAt_snoc, if_pos rfl, hu]
    · have hn : bodyAt fm ps p ((ps.zip ws).take k) = none := by simpa using h
      refine sxs_nil ?_
      refine last (said fm ps wd.own) ?_
      rw [htk, bodyAt_snoc, if_pos rfl, hn]
  · obtain ⟨kvs, rfl, hkl, hk⟩ := hP
    refine sxs_retO 2 rfl ?_
    refine ⟨kvs, rfl, fun p => ?_⟩
    have e : (ps.zip ws).take (enums 0 (ws.map wdD)).length = ps.zip ws := by
      rw [enums_length, List.length_map]
      exact List.take_of_length_le (by rw [List.length_zip]; omega)
    rw [e] at hk
    exact hk p
abbrev C_feet_rows (P : Program) (w : World) (K : PySem.W.Frag) (mg : Str → Option Value) (base : Heap) (C : Ec → Addr) := Callee P w K mg base 4 "feet_rows" (spP K C 2 insBk preBk (fun i o => ∃ kvs : List (Key × PyData), o = .ok (dk kvs) ∧ ∀ g : Nat, (getP kvs (.inl (g : Int))).getD (.list []) = .list ((feetAt i.1 i.2.2 g (i.2.2.zip i.2.1)).map PyData.str)))
theorem ok_feet_rows (Bt : Blt mg) (G_foot_rows : C_foot_rows P w K mg base C) (D : Df K mg "feet_rows" s_feet_rows) : C_feet_rows P w K mg base C := by
  refine callee_of D sc_feet_rows (fun _ _ _ _ _ _ us hl => match us, hl with | [_, _], _ => rfl) (fun f cdv A outer s H E c i hi => ?_)
  obtain ⟨fm, ws, ps⟩ := i
  have hi : okBk fm ws ps := hi
  show Sxs _ _ _ [some (fz (bkD (fm, ws))), some (fz (.list (ps.map plD))), none, none, none, none] _
  refine sxs_setS 2 s_dk ?_ c.nd
  refine sxs_for c (fun k ρ => ∃ kvs : List (Key × PyData), ρ = [some (fz (bkD (fm, ws))), some (fz (.list (ps.map plD))), some (dk kvs), none, none, none] ∧ kvs.length ≤ k ∧ ∀ g : Nat, (getP kvs (.inl (g : Int))).getD (.list []) = .list ((feetAt fm ps g ((ps.zip ws).take k)).map PyData.str))
    (iv_enum Bt (ev_ixT (ev_var 0 rfl) ev_int rfl)) (tg_tup c.calm (tgs_cons 3 c.nd (tgs_cons 4 c.nd tgs_nil))) ⟨[], rfl, Nat.le_refl _, fun p => rfl⟩ (fun k d ρ hd hP => ?_) (fun ρ hP => ?_)
  · obtain ⟨kvs, rfl, hkl, hk⟩ := hP
    obtain ⟨e, he, rfl⟩ := enums_of hd
    rw [List.getElem?_map] at he
    obtain ⟨wd, hw, rfl⟩ := Option.map_eq_some_iff.mp he
    have hkw : k < ws.length := (List.getElem?_eq_some_iff.mp hw).1
    have hkp : k < ps.length := hi.len ▸ hkw
    have h100 := hi.pls.1
    have hwd := hi.wrd wd (List.mem_of_getElem? hw)
    have hp := plAt_get hkp
    generalize plAt ps k = p at hp
    have htk := take_zip_succ hp hw
    have hft := feetAt_ok hi.frm hi.pls p.1 _ (hi.items k)
    have hz := zip_len hi k
    have hfl := (filled_row hi.frm hi.pls hwd.foot.2).2
    have hw100 := hwd.foot.1
    refine ⟨⟨fun _ => ⟨_, rfl⟩, rfl⟩, ?_⟩
    show Sxs _ _ _ [some (fz (bkD (fm, ws))), some (fz (.list (ps.map plD))), some (dk kvs), some (fz (.int k)), some (fz (wdD wd)), none] _
    refine sxs_set 5 (ev_ixT (ev_ixL (Bv.bw (Ev.bv (ev_var 1 rfl))) (ev_var 3 rfl) (atI_map plD hp)) ev_int rfl) ?_ c.nd
    refine sxs_dputK (y := .inl (p.1 : Int)) 2 c rfl (Fr.ev (fr_cat (Ev.bv ((ev_dget2 c (dc_k 2 (.inl (p.1 : Int)) rfl) (ev_var 5 rfl) (Fr.ev (fr_lst eva_nil))).to (hk p.1))) (Fr.bv (fr_call (ds := (filled fm ps wd.foot).map .str) c G_foot_rows (fm, wd.foot, ps) ⟨hi.frm, hi.pls, hwd.foot⟩ (fun _ h => h) (as_cons (Ev.s (ev_ixT (ev_var 0 rfl) ev_int rfl)) (as_cons (Ev.s (ev_ixT (ev_var 4 rfl) ev_int rfl)) (as_cons (Ev.s (ev_var 1 rfl)) as_nil))))) (szm (by rw [List.length_map, List.length_map]; omega)))) (ev_var 5 rfl) (szl' (by omega)) ?_
    refine sxs_nil ⟨_, Wk.of ?_, putP kvs (.inl (p.1 : Int)) (.list ((feetAt fm ps p.1 ((ps.zip ws).take k)).map PyData.str ++ (filled fm ps wd.foot).map .str)), rfl, by have := putP_len kvs (.inl (p.1 : Int)) (.list ((feetAt fm ps p.1 ((ps.zip ws).take k)).map PyData.str ++ (filled fm ps wd.foot).map .str)); omega, fun g => ?_⟩
    · exact wkl_some rfl (wkl_some rfl (wkl_some rfl (wkl_none (wkl_none (wkl_none wkl_nil)))))
    · rw [getP_put, htk, feetAt_snoc]
      by_cases e : p.1 = g
      · subst e
        rw [if_pos rfl, if_pos rfl, List.map_append]
        rfl
      · rw [if_neg (fun z => e (by have := Sum.inl.inj z; omega)), if_neg e]
        exact hk g
  · obtain ⟨kvs, rfl, hkl, hk⟩ := hP
    refine sxs_retO 2 rfl ?_
    refine ⟨kvs, rfl, fun p => ?_⟩
    have e : (ps.zip ws).take (enums 0 (ws.map wdD)).length = ps.zip ws := by
      rw [enums_length, List.length_map]
      exact List.take_of_length_le (by rw [List.length_zip]; omega)
    rw [e] at hk
    exact hk p
abbrev C_pages_of (P : Program) (w : World) (K : PySem.W.Frag) (mg : Str → Option Value) (base : Heap) (C : Ec → Addr) := Callee P w K mg base 5 "pages_of" (spP K C 2 insBk preBk (fun i => is (.ok (tr (.lst none ((pagesOf i.1 i.2.1 i.2.2).map pgT))))))
theorem ok_pages_of (Bt : Blt mg) (G_body_rows : C_body_rows P w K mg base C) (G_feet_rows : C_feet_rows P w K mg base C) (D : Df K mg "pages_of" s_pages_of) : C_pages_of P w K mg base C := by
  refine callee_of D sc_pages_of (fun _ _ _ _ _ _ us hl => match us, hl with | [_, _], _ => rfl) (fun f cdv A outer s H E c i hi => ?_)
  obtain ⟨fm, ws, ps⟩ := i
  have hi : okBk fm ws ps := hi
  show Sxs _ _ _ [some (fz (bkD (fm, ws))), some (fz (.list (ps.map plD))), none, none, none, none, none, none, none, none] _
  refine sxs_if (t := decide (ps = [])) ((tst_cm (cm_eqD c (Ev.rv (ev_var 1 rfl)) (Bv.rv (Fr.bv (fr_lst eva_nil))) (cl_shaped (pls_cl ps)) (cl_shaped nil_cl))).to (by rw [eqv_nil, decide_eq_decide, List.map_eq_nil_iff])) (fun h => ?_) (fun h => ?_)
  · have h : ps = [] := by simpa using h
    subst h
    refine sxs_retT (Fr.t (fr_lst eva_nil)) ?_
    rfl
  · have hne : ps ≠ [] := by simpa using h
    obtain ⟨l, hl⟩ : ∃ l, ps.getLast? = some l := ⟨ps.getLast hne, List.getLast?_eq_some_getLast hne⟩
    have hm : manyOf ps = l.1 + 1 := by unfold manyOf; rw [hl]
    have hlb : l.1 ≤ 1000 := by
      have hmem := List.mem_of_getLast? hl
      obtain ⟨k, hk⟩ := List.mem_iff_getElem?.mp hmem
      have hk' := plAt_get (List.getElem?_eq_some_iff.mp hk).1
      rw [hk] at hk'
      have := (hi.pls.2 k).1
      rw [← Option.some.inj hk'] at this
      exact this
    refine sxs_nil ?_
    refine sxs_set 2 (ev_ixT (ev_var 0 rfl) ev_int rfl) ?_ c.nd
    refine sxs_callS 3 c G_body_rows (fm, ws, ps) hi (as_cons (Ev.s (ev_var 0 rfl)) (as_cons (Ev.s (ev_var 1 rfl)) as_nil)) (fun S hS => ?_) (fun _ hc => by obtain ⟨_, z, _⟩ := hc; cases z)
    obtain ⟨bs, e, hb⟩ := hS
    cases e
    refine sxs_callS 4 c G_feet_rows (fm, ws, ps) hi (as_cons (Ev.s (ev_var 0 rfl)) (as_cons (Ev.s (ev_var 1 rfl)) as_nil)) (fun S hS => ?_) (fun _ hc => by obtain ⟨_, z, _⟩ := hc; cases z)
    obtain ⟨fs, e, hft⟩ := hS
    cases e
    simp only at hb hft
    refine sxs_setT 5 (t_lst ta_nil) ?_ c.nd
    refine sxs_for c (fun k ρ => ρ = [some (fz (bkD (fm, ws))), some (fz (.list (ps.map plD))), some (fz (frD fm)), some (dt bs), some (dk fs), some (tr (.lst none (((List.range k).map (pageAt fm ps (ps.zip ws))).map pgT))), none, none, none, none])
      (iv_range1 Bt (ev_add (ev_ixT (ev_ixL (Bv.bw (Ev.bv (ev_var 1 rfl))) (ev_neg ev_int) (atI_last plD hl)) ev_int rfl) ev_int) (by omega) (by omega)) (tg_name 6 c.nd) rfl (fun g d ρ hd hP => ⟨⟨(fun h => nomatch h), rfl⟩, ?_⟩) (fun ρ hP => ?_)
    · subst hP
      obtain ⟨hg, rfl⟩ := nums_of hd
      have hg1000 : g ≤ 1000 := by omega
      have hfb := feetAt_ok hi.frm hi.pls g (ps.zip ws) fun x hx => hi.wrd x.2 (List.of_mem_zip hx).2
      have hzl : (ps.zip ws).length ≤ 100 := by rw [List.length_zip]; have := hi.pls.1; omega
      have hhigh := hi.frm.2.1
      have hfg := hft g
      generalize hfr : feetAt fm ps g (ps.zip ws) = ft at hfb hfg
      have hfl : ft.length ≤ 10000 := by omega
      show Sxs _ _ _ [some (fz (bkD (fm, ws))), some (fz (.list (ps.map plD))), some (fz (frD fm)), some (dt bs), some (dk fs), some (tr (.lst none (((List.range g).map (pageAt fm ps (ps.zip ws))).map pgT))), some (fz (.int g)), none, none, none] _
      refine sxs_set 7 ((ev_dget2 c (dc_k 4 (.inl (g : Int)) rfl) (ev_var 6 rfl) (Fr.ev (fr_lst eva_nil))).to hfg) ?_ c.nd
      have hcount : ((fm.high : Int) - ((ft.map PyData.str).length : Int)).toNat = fm.high - ft.length := by rw [List.length_map]; omega
      refine sxs_setLc (ks := (((List.range (fm.high - ft.length)).map fun r => (bodyAt fm ps (g, r) (ps.zip ws)).getD ("" : Str)).map PyData.str).map some) 8 [("row", 9)] c (iv_range1 Bt (ev_sub (ev_ixT (ev_var 2 rfl) ev_int rfl) (ev_len Bt (Bv.bw (Ev.bv (ev_var 7 rfl))))) (by rw [List.length_map]; omega) (by omega)) (fun s H Cc cl fp => have cb := c.blk s H Cc cl fp; tg_name 9 cb.nd) (szl (by rw [nums_length, hcount]; omega)) (by rw [nums_length, hcount]; simp) (fun r d o hd hr => ?_) ?_
      · obtain ⟨hr1, rfl⟩ := nums_of hd
        rw [hcount] at hr1
        have hr : o = some (.str ((bodyAt fm ps (g, r) (ps.zip ws)).getD ("" : Str))) := by
          rw [List.map_map, List.map_map, List.getElem?_map, List.getElem?_range hr1] at hr
          exact (Option.some.inj hr).symm
        subst hr
        refine ⟨⟨(fun h => nomatch h), rfl⟩, true, rfl, (fun h => nomatch h), fun _ => ⟨_, rfl, fun s H Cc cl fp => ?_⟩⟩
        refine (ev_dget2 (c.blk s H Cc cl fp) (dc_t 3 (plK (g, r)) rfl) (ev_tup (eva_cons (ev_var 6 rfl) (eva_cons (ev_var 9 rfl) eva_nil)) (szl (by show 2 ≤ 10000; decide))) ev_str).to ?_
        rw [hb (g, r)]
        cases bodyAt fm ps (g, r) (ps.zip ws) <;> rfl
      · rw [keep_all]
        refine sxs_freeze 8 rfl ?_
        refine sxs_appendN 5 rfl (nd_var 5 rfl) rfl (FrT.to (t_tup (ta_cons (Ev.t (ev_add (ev_ixT (ev_var 2 rfl) ev_int rfl) (ev_var 6 rfl))) (ta_cons (Fr.t (fr_cat (Ev.bv (ev_var 8 rfl)) (Ev.bv (ev_var 7 rfl)) (szm (by simp only [List.length_map, List.length_range]; omega)))) ta_nil))) (u := pgT (pageAt fm ps (ps.zip ws) g)) (by rw [← List.map_append, pgT_to, pageAt, hfr, Int.natCast_add])) (szl' (by simp; omega)) ?_
        refine sxs_nil ⟨_, Wk.of ?_, rfl⟩
        rw [List.range_succ, List.map_append, List.map_append]
        exact wkl_some rfl (wkl_some rfl (wkl_some rfl (wkl_some rfl (wkl_some rfl (wkl_some rfl (wkl_none (wkl_none (wkl_none (wkl_none wkl_nil)))))))))
    · subst hP
      refine sxs_retO 5 rfl ?_
      show _ = _
      rw [nums_length]
      have e : ((l.1 : Int) + 1).toNat = manyOf ps := by rw [hm]; omega
      rw [pagesOf, ← e]
end
end Tl

/-! The pure-value layer: loops over enumerate, by what is left. -/
namespace PV
open PySem PySem.Spec PyProof.Rows L2
section
variable {X : Cx} {W : Wc} {ρ : Env} {e a b d tg : Expr} {es ts : List Expr} {pos p : Pos} {C : Ec → Addr} {k : Nat} {rest body : List Stmt} {Φ : Out → Prop}
theorem Wk.setAll : ∀ {is : List Nat} {ds : List PyData} {ρ1 ρ2 : Env}, Wk ρ1 ρ2 → Wk (PV.setAll ρ1 is ds) (PV.setAll ρ2 is ds)
  | [], ds, _, _, w => by cases ds <;> exact w
  | i :: is, [], _, _, w => w
  | i :: is, d :: ds, ρ1, ρ2, w => by
    refine Wk.setAll (is := is) (ds := ds) ⟨by rw [List.length_set, List.length_set]; exact w.1, fun j S h => ?_⟩
    by_cases hj : i = j
    · subst hj
      by_cases hl : i < ρ2.length
      · rw [List.getElem?_set_self hl] at h
        rw [List.getElem?_set_self (w.1 ▸ hl)]
        exact h
      · rw [List.getElem?_eq_none (by simpa using hl)] at h; cases h
    · rw [List.getElem?_set_ne hj] at h ⊢
      exact w.2 j S h
theorem sxs_forE {α S : Type} {is : List Nat} (enc : α → PyData) (xs : List α) (envOf : S → Env) (R : Nat → S → List α → Prop) (s0 : S) (c : Ctx X C W k) (hi : Iv X W ρ tg a (enums 0 (xs.map enc))) (hg : TgOk X tg true is) (hl : is.length = 2) (hw : Wk ρ (envOf s0)) (h0 : R 0 s0 xs)
    (step : ∀ i s x ys, xs[i]? = some x → R i s (x :: ys) → Sxs X W body (setAll (envOf s) is [.int i, enc x]) (turnS (fun ρ' => ∃ s', ρ' = envOf s' ∧ R (i + 1) s' ys) X W rest Φ))
    (done : ∀ s, R xs.length s [] → Sxs X W rest (envOf s) Φ) (hs : ∀ x, foldedSetIterable a X.env x = pure x := by intro _; rfl) : Sxs X W (.For tg a body [] pos :: rest) ρ Φ := by
  obtain ⟨wi, hwi, qi⟩ := hi
  refine sxs_for c (fun i ρ' => ∃ s, Wk ρ' (envOf s) ∧ R i s (xs.drop i)) ⟨wi, hwi, qi⟩ hg ⟨s0, hw, h0⟩ (fun i d ρ' hd hP => ?_) (fun ρ' hP => ?_) hs
  · obtain ⟨s, hs, hR⟩ := hP
    obtain ⟨e, he, rfl⟩ := enums_of hd
    rw [List.getElem?_map] at he
    obtain ⟨x, hx, rfl⟩ := Option.map_eq_some_iff.mp he
    have hlt : i < xs.length := (List.getElem?_eq_some_iff.mp hx).1
    have hdr : xs.drop i = x :: xs.drop (i + 1) := by
      rw [List.drop_eq_getElem_cons hlt, (List.getElem?_eq_some_iff.mp hx).2]
    rw [hdr] at hR
    refine ⟨⟨fun _ => ⟨_, rfl⟩, hl.symm⟩, sxs_mono (sxs_weak (Wk.setAll hs) (step i s x _ hx hR)) fun o ho => ?_⟩
    cases o with
    | next ρ2 => obtain ⟨ρ3, w, s', e, h⟩ := ho; exact ⟨ρ3, w, s', e ▸ Wk.refl _, h⟩
    | cont ρ2 => obtain ⟨ρ3, w, s', e, h⟩ := ho; exact ⟨ρ3, w, s', e ▸ Wk.refl _, h⟩
    | brk ρ2 => exact ho
    | ret S ρ2 => exact ho
    | raise cl ρ2 => exact ho
  · obtain ⟨s, hs, hR⟩ := hP
    rw [enums_length, List.length_map, List.drop_length] at hR
    exact sxs_weak hs (done s hR)
end
end PV

/-! The draws: numbers, signs, places. -/
namespace Tl
open PySem PySem.Spec PyProof.Rows L2 PV
def mixN (c : Int) : Nat := (mixed c).toNat
theorem mixed_lt (c : Int) : 0 ≤ mixed c ∧ mixed c < 2305843009213693951 := by unfold mixed; omega
theorem mix_eq (c : Int) : mixed c = (mixN c : Int) := (Int.toNat_of_nonneg (mixed_lt c).1).symm
theorem mix_lt (c : Int) : mixN c < 2305843009213693951 := by
  have h := (mixed_lt c).2
  rw [mix_eq c] at h
  generalize mixN c = m at h
  omega
/-! ### signs -/
def sgAt (i : Nat) : Nat := if i < 4 then 33 + i else 34 + i
noncomputable def sgZ : Str := match defBody s_law_signs with
  | .Assign _ (.Constant (.str a) _ _) _ :: .Assign _ (.BinOp _ _ (.Constant (.str b) _ _) _) _ :: _ => a ++ b
  | _ => ""
theorem sgZ_at {i : Nat} (h : i < 93) : atI sgZ.cps.toList (i : Int) = some (sgAt i) := by
  have key : ∀ i : Fin 93, sgZ.cps.toList[i.val]? = some (sgAt i.val) := by decide +kernel
  exact atI_nat (key ⟨i, h⟩)
theorem sgZ_len : sgZ.length ≤ 1000 := by decide +kernel
theorem sgAt_lt {i : Nat} (h : i < 93) : 33 ≤ sgAt i ∧ sgAt i < 127 := by unfold sgAt; split <;> omega
def signsS (n size : Nat) : Str := ⟨((List.range size).map fun k => sgAt ((n + k * (1 + n / 93 % 92)) % 93)).toArray⟩
theorem join_cps : ∀ cs : List Nat, (Txt.join ("" : Str) (cs.map fun c => (⟨#[c]⟩ : Str))) = ⟨cs.toArray⟩ := by
  intro cs
  show Builtin.Str.glued ("" : Str) _ = _
  rw [StrLaws.glued_eq_join]
  have key : ∀ cs : List Nat, (PySem.Str.join ("" : Str) (cs.map fun c => (⟨#[c]⟩ : Str))).cps.toList = cs := by
    intro cs
    induction cs with
    | nil => rfl
    | cons c cs ih =>
      cases cs with
      | nil => rfl
      | cons d cs =>
        show ((⟨#[c]⟩ : Str) ++ ("" : Str) ++ PySem.Str.join ("" : Str) ((d :: cs).map fun c => (⟨#[c]⟩ : Str))).cps.toList = _
        rw [PySem.Str.cps_append, PySem.Str.cps_append, Array.toList_append, Array.toList_append, ih]
        have e : (("" : Str)).cps.toList = [] := by decide
        rw [e]
        rfl
  have h := key cs
  calc _ = (⟨(PySem.Str.join ("" : Str) (cs.map fun c => (⟨#[c]⟩ : Str))).cps.toList.toArray⟩ : Str) := rfl
    _ = _ := by rw [h]
theorem signs_len (n size : Nat) : (signsS n size).length = size := by
  show (signsS n size).cps.size = size
  simp [signsS]
theorem signs_ok (n size : Nat) : PyData.strOk (signsS n size) = true := by
  unfold PyData.strOk
  rw [← Array.all_toList, List.all_eq_true]
  intro c hc
  have hc : c ∈ (List.range size).map fun k => sgAt ((n + k * (1 + n / 93 % 92)) % 93) := hc
  obtain ⟨k, _, rfl⟩ := List.mem_map.mp hc
  have := sgAt_lt (i := (n + k * (1 + n / 93 % 92)) % 93) (Nat.mod_lt _ (by decide))
  exact decide_eq_true (by omega)
/-! ### places -/
def numAt (ns : List Int) (cells : List Int) (k : Nat) : Nat := if k < cells.length then mixN (cells.getD k 0) else mixN (cellAt ns 0 % 1000003 * ((k : Int) * k + k + 41) + k)
def cellsOf (ns : List Int) (most : Nat) : List Int := (ns.drop (HT.sIx ns.length 0 (some 2))).take (HT.sIx ns.length ns.length (some ((most + 2 : Nat) : Int)) - HT.sIx ns.length 0 (some 2))
def numbers (ns : List Int) (most : Nat) : List Nat := (List.range (max (cellsOf ns most).length (mixN (cellAt ns 0) % 25))).map (numAt ns (cellsOf ns most))
theorem cells_len (ns : List Int) (most : Nat) : (cellsOf ns most).length ≤ most := by
  unfold cellsOf
  rw [List.length_take, List.length_drop, HT.sIx_nat]
  have h2 : HT.sIx ns.length 0 (some 2) = min 2 ns.length := HT.sIx_nat _ _ 2
  rw [h2]
  omega
theorem numbers_len (ns : List Int) (most : Nat) : (numbers ns most).length ≤ max most 24 := by
  have := cells_len ns most
  unfold numbers
  rw [List.length_map, List.length_range]
  omega
def rQ (base room k n : Nat) (s : Nat × Nat × Nat) : Nat × Nat :=
  if k = 0 then (n / 8 % 3, n / 8 / 3 % 2 * (n / 8 / 6 % base)) else if 4 < n % 8 then (s.1 + 1 + (if n % 8 = 7 ∧ s.1 ≤ k then 1 else 0), n / 8 % 2 * (n / 8 / 2 % base)) else if 2 < n % 8 ∨ room ≤ s.2.2 then (s.1 + (s.2.1 + 1) / base, (s.2.1 + 1) % base) else (s.1, s.2.1)
def rC (base room k n : Nat) (s : Nat × Nat × Nat) : Nat := if rQ base room k n s ≠ (s.1, s.2.1) ∨ k = 0 then 0 else s.2.2
def rStep (base room k n : Nat) (s : Nat × Nat × Nat) : Nat × Nat × Nat := ((rQ base room k n s).1, (rQ base room k n s).2, rC base room k n s + 1)
def rGo (base room : Nat) : Nat → Nat × Nat × Nat → List Nat → List Plc
  | _, _, [] => []
  | k, s, n :: ns => ((rStep base room k n s).1, (rStep base room k n s).2.1) :: rGo base room (k + 1) (rStep base room k n s) ns
def rising (ns : List Nat) (base room : Nat) : List Plc := rGo base room 0 (0, 0, 0) ns
/-! ### sayings drawn -/
def someS (n many : Nat) (big : Bool) : Say :=
  if n % 4 = 1 then .pg (n / 4 % many) else if n % 4 = 2 then .rw (n / 4 % many) else .txt (signsS (n / 4 / 2880) (if big = true ∧ n / 4 / 12 % 4 = 1 then 1 + n / 4 / 48 % 60 else 1 + n / 4 % 12))
theorem some_ok {n many : Nat} {big : Bool} (h : 0 < many) : okSay many (someS n many big) := by
  unfold someS
  split
  · exact Nat.mod_lt _ h
  · split
    · exact Nat.mod_lt _ h
    · refine ⟨signs_ok _ _, ?_⟩
      rw [signs_len]
      split <;> omega
section
variable {P : Program} {w : World} {K : PySem.W.Frag} {mg : Str → Option Value} {base : Heap} {C : Ec → Addr}
abbrev C_signs (P : Program) (w : World) (K : PySem.W.Frag) (mg : Str → Option Value) (base : Heap) (C : Ec → Addr) := Callee P w K mg base 1 "_law_signs" (spP K C 2 (fun i : Nat × Nat => [fz (.int i.1), fz (.int i.2)]) (fun i => i.2 ≤ 1000) (fun i => is (.ok (fz (.str (signsS i.1 i.2))))))
theorem ok_signs (Bt : Blt mg) (D : Df K mg "_law_signs" s_law_signs) : C_signs P w K mg base C := by
  refine callee_of D sc_law_signs (fun _ _ _ _ _ _ us hl => match us, hl with | [_, _], _ => rfl) (fun f cdv A outer s H E c i hi => ?_)
  obtain ⟨n, size⟩ := i
  have hi : size ≤ 1000 := hi
  show Sxs _ _ _ [some (fz (.int n)), some (fz (.int size)), none, none, none] _
  refine sxs_set 2 ev_str ?_ c.nd
  refine sxs_set 2 ((ev_adds (by decide +kernel) (ev_var 2 rfl) ev_str).to (e := .str sgZ) rfl) ?_ c.nd
  refine sxs_set 3 ((ev_add ev_int (ev_mod (by decide) (ev_fdiv (by decide) (ev_var 0 rfl) ev_int) ev_int)).to (e := .int ((1 + n / 93 % 92 : Nat) : Int)) (by congr 1)) ?_ c.nd
  have hlist : ∀ l : List Nat, l.map (fun c => PyData.str (⟨#[c]⟩ : Str)) = (l.map fun c => (⟨#[c]⟩ : Str)).map PyData.str := fun l => by rw [List.map_map]; rfl
  refine sxs_ret (ev_join (ys := ((List.range size).map fun k => sgAt ((n + k * (1 + n / 93 % 92)) % 93)).map fun c => (⟨#[c]⟩ : Str)) ev_str (Bv.bw (Fr.bv (Fr.to (fr_lc (ks := ((((List.range size).map fun k => sgAt ((n + k * (1 + n / 93 % 92)) % 93)).map fun c => (⟨#[c]⟩ : Str)).map PyData.str).map some) [("k", 4)] c (iv_range1 Bt (ev_var 1 rfl) (by omega) (by omega)) (fun s H Cc cl fp => have cb := c.blk s H Cc cl fp; tg_name 4 cb.nd) (szl (by rw [nums_length]; omega)) (by rw [nums_length]; simp) (fun k d r hd hr => ?_)) (keep_all _)))) ?_) ?_
  · obtain ⟨hk, rfl⟩ := nums_of hd
    have hk : k < size := by omega
    have hr : r = some (.str (⟨#[sgAt ((n + k * (1 + n / 93 % 92)) % 93)]⟩ : Str)) := by
      rw [List.map_map, List.map_map, List.map_map, List.getElem?_map, List.getElem?_range hk] at hr
      exact (Option.some.inj hr).symm
    subst hr
    refine ⟨⟨(fun h => nomatch h), rfl⟩, true, rfl, (fun h => nomatch h), fun _ => ⟨_, rfl, fun s H Cc cl fp => ?_⟩⟩
    refine ev_ixS (ev_var 2 rfl) ((ev_mod (by decide) (ev_add (ev_var 0 rfl) (ev_mul (.inl ⟨by omega, by omega⟩) (ev_var 4 rfl) (ev_var 3 rfl))) ev_int).to (e := .int (((n + k * (1 + n / 93 % 92)) % 93 : Nat) : Int)) (by congr 1)) (szl (Nat.le_trans sgZ_len (by decide))) (sgZ_at (Nat.mod_lt _ (by decide)))
  · have e : (("" : Str)).length = 0 := by decide
    have e2 : ∀ l : List Nat, ((l.map fun c => (⟨#[c]⟩ : Str)).map (·.length)).sum = l.length := by
      intro l
      induction l with
      | nil => rfl
      | cons c l ih =>
        rw [List.map_cons, List.map_cons, List.sum_cons, ih, List.length_cons]
        show 1 + l.length = _
        omega
    rw [e2, e, List.length_map, List.length_map, List.length_range]
    omega
  · show _ = _
    rw [join_cps]
    rfl
end
end Tl

/-! The draws: the walks of numbers, places, sayings. -/
namespace Tl
open PySem PySem.Spec PyProof.Rows L2 PV
theorem numbers_succ (ns cells : List Int) (n : Nat) : ((List.range (n + 1)).map (numAt ns cells)).map (fun m : Nat => PyData.int m) = ((List.range n).map (numAt ns cells)).map (fun m : Nat => PyData.int m) ++ [.int (numAt ns cells n)] := by
  rw [List.range_succ, List.map_append, List.map_append]; rfl
abbrev natD (m : Nat) : PyData := .int m
section
variable {P : Program} {w : World} {K : PySem.W.Frag} {mg : Str → Option Value} {base : Heap} {C : Ec → Addr}
abbrev C_numbers (P : Program) (w : World) (K : PySem.W.Frag) (mg : Str → Option Value) (base : Heap) (C : Ec → Addr) := Callee P w K mg base 2 "_law_numbers" (spP K C 2 (fun i : List Int × Nat => [kn (i.1.map .int), fz (.int i.2)]) (fun i => i.2 ≤ 100) (fun i => is (.ok (fz (.list ((numbers i.1 i.2).map natD))))))
theorem ok_numbers (Bt : Blt mg) (G_mixed : C_mixed P w K mg base C) (G_cell_at : C_cell_at P w K mg base C) (D : Df K mg "_law_numbers" s_law_numbers) : C_numbers P w K mg base C := by
  refine callee_of D sc_law_numbers (fun _ _ _ _ _ _ us hl => match us, hl with | [_, _], _ => rfl) (fun f cdv A outer s H E c i hi => ?_)
  obtain ⟨ns, most⟩ := i
  have hi : most ≤ 100 := hi
  have hcl := cells_len ns most
  show Sxs _ _ _ [some (kn (ns.map .int)), some (fz (.int most)), none, none, none, none, none] _
  refine sxs_set 2 ((Fr.ev (fr_slice (bw_var 0 rfl) (evo ev_int) (evo ((ev_add (ev_var 1 rfl) ev_int).to (e := .int ((most + 2 : Nat) : Int)) (by congr 1))))).to (e := .list ((cellsOf ns most).map .int)) (congrArg PyData.list (cut_map PyData.int ns (some 2) (some ((most + 2 : Nat) : Int))))) ?_ c.nd
  refine sxs_set 3 ((ev_call c G_cell_at (ns, 0) trivial (fun _ h => h) (as_cons (evs_kn 0 rfl) (as_cons (Ev.s ev_int) as_nil))).to (e := .int (cellAt ns 0)) rfl) ?_ c.nd
  have hm : max (((cellsOf ns most).map PyData.int).length : Int) (mixed (cellAt ns 0) % 25) = ((max (cellsOf ns most).length (mixN (cellAt ns 0) % 25) : Nat) : Int) := by
    rw [List.length_map, mix_eq]
    generalize mixN (cellAt ns 0) = m
    omega
  refine sxs_set 4 ((ev_max c Bt (ev_len Bt (Bv.bw (Ev.bv (ev_var 2 rfl)))) (ev_mod (by decide) (ev_call c G_mixed (cellAt ns 0) trivial (fun _ h => h) (as_cons (Ev.s (ev_var 3 rfl)) as_nil)) ev_int)).to (congrArg PyData.int hm)) ?_ c.nd
  generalize hmm : max (cellsOf ns most).length (mixN (cellAt ns 0) % 25) = many
  have hmany : many ≤ 100 := by
    generalize mixN (cellAt ns 0) = m at hmm
    omega
  refine sxs_setF 5 (fr_lst eva_nil) ?_ c.nd
  refine sxs_for c (fun k ρ => ρ = [some (kn (ns.map .int)), some (fz (.int most)), some (fz (.list ((cellsOf ns most).map .int))), some (fz (.int (cellAt ns 0))), some (fz (.int many)), some (ow none (((List.range k).map (numAt ns (cellsOf ns most))).map natD)), none])
    (iv_range1 Bt (ev_var 4 rfl) (by omega) (by omega)) (tg_name 6 c.nd) rfl (fun k d ρ hd hP => ⟨⟨(fun h => nomatch h), rfl⟩, ?_⟩) (fun ρ hP => ?_)
  · subst hP
    obtain ⟨hk, rfl⟩ := nums_of hd
    have hk100 : k < 100 := by omega
    show Sxs _ _ _ [some (kn (ns.map .int)), some (fz (.int most)), some (fz (.list ((cellsOf ns most).map .int))), some (fz (.int (cellAt ns 0))), some (fz (.int many)), some (ow none (((List.range k).map (numAt ns (cellsOf ns most))).map natD)), some (fz (.int k))] _
    have hlen : (((List.range k).map (numAt ns (cellsOf ns most))).map natD).length < sizeLine := szl' (by simp; omega)
    refine sxs_if (tst_cm (cm_lt (ev_var 6 rfl) (ev_len Bt (Bv.bw (Ev.bv (ev_var 2 rfl)))))) (fun h => ?_) (fun h => ?_)
    · have h1 : k < (cellsOf ns most).length := by simpa using h
      have hx : (cellsOf ns most)[k]? = some ((cellsOf ns most).getD k 0) := by
        rw [List.getD_eq_getElem?_getD, List.getElem?_eq_getElem h1]; rfl
      refine sxs_append 5 rfl ((ev_call c G_mixed ((cellsOf ns most).getD k 0) trivial (fun _ h => h) (as_cons (Ev.s (ev_ixL (Bv.bw (Ev.bv (ev_var 2 rfl))) (ev_var 6 rfl) (atI_map PyData.int hx))) as_nil)).to (e := .int (numAt ns (cellsOf ns most) k)) (by rw [numAt, if_pos h1, mix_eq])) hlen ?_
      refine sxs_nil ?_
      refine sxs_nil ⟨_, Wk.of ?_, rfl⟩
      rw [numbers_succ]
      exact wkl_some rfl (wkl_some rfl (wkl_some rfl (wkl_some rfl (wkl_some rfl (wkl_some rfl (wkl_none wkl_nil))))))
    · have h1 : ¬ k < (cellsOf ns most).length := by simpa using h
      have hkk : (k : Int) * k + k + 41 < 2 ^ 64 := by
        have : k * k ≤ 100 * 100 := Nat.mul_le_mul (by omega) (by omega)
        have e : (k : Int) * k = ((k * k : Nat) : Int) := by simp
        omega
      have hk0 : 0 ≤ (k : Int) * k := by
        have e : (k : Int) * k = ((k * k : Nat) : Int) := by simp
        omega
      refine sxs_append 5 rfl ((ev_call c G_mixed (cellAt ns 0 % 1000003 * ((k : Int) * k + k + 41) + k) trivial (fun _ h => h) (as_cons (Ev.s (ev_add (ev_mul (.inr ⟨by omega, hkk⟩) (ev_mod (by decide) (ev_var 3 rfl) ev_int) (ev_add (ev_add (ev_mul (.inl ⟨by omega, by omega⟩) (ev_var 6 rfl) (ev_var 6 rfl)) (ev_var 6 rfl)) ev_int)) (ev_var 6 rfl))) as_nil)).to (e := .int (numAt ns (cellsOf ns most) k)) (by rw [numAt, if_neg h1, mix_eq])) hlen ?_
      refine sxs_nil ?_
      refine sxs_nil ⟨_, Wk.of ?_, rfl⟩
      rw [numbers_succ]
      exact wkl_some rfl (wkl_some rfl (wkl_some rfl (wkl_some rfl (wkl_some rfl (wkl_some rfl (wkl_none wkl_nil))))))
  · subst hP
    rw [nums_length, Int.toNat_natCast]
    refine sxs_freeze 5 rfl ?_
    refine sxs_ret (ev_var 5 rfl) ?_
    show _ = _
    rw [numbers, hmm]
abbrev C_some (P : Program) (w : World) (K : PySem.W.Frag) (mg : Str → Option Value) (base : Heap) (C : Ec → Addr) := Callee P w K mg base 2 "_law_some" (spP K C 3 (fun i : Nat × Nat × Bool => [fz (.int i.1), fz (.int i.2.1), fz (.bool i.2.2)]) (fun i => 0 < i.2.1) (fun i => is (.ok (fz (sayD (someS i.1 i.2.1 i.2.2))))))
theorem ok_some (Bt : Blt mg) (G_signs : C_signs P w K mg base C) (D : Df K mg "_law_some" s_law_some) : C_some P w K mg base C := by
  refine callee_of D sc_law_some (fun _ _ _ _ _ _ us hl => match us, hl with | [_, _, _], _ => rfl) (fun f cdv A outer s H E c i hi => ?_)
  obtain ⟨n, many, big⟩ := i
  have hi : 0 < many := hi
  show Sxs _ _ _ [some (fz (.int n)), some (fz (.int many)), some (fz (.bool big)), none, none] _
  refine sxs_set 3 ((ev_mod (by decide) (ev_var 0 rfl) ev_int).to (e := .int ((n % 4 : Nat) : Int)) (by congr 1)) ?_ c.nd
  refine sxs_set 0 ((ev_fdiv (by decide) (ev_var 0 rfl) ev_int).to (e := .int ((n / 4 : Nat) : Int)) (by congr 1)) ?_ c.nd
  refine sxs_if (t := decide (n % 4 = 1)) ((tst_cm (cm_eq (ev_var 3 rfl) ev_int)).to (by rw [decide_eq_decide]; omega)) (fun h => ?_) (fun h => ?_)
  · have h : n % 4 = 1 := by simpa using h
    refine sxs_ret (ev_tup (eva_cons ev_str (eva_cons ((ev_mod (by omega) (ev_var 0 rfl) (ev_var 1 rfl)).to (e := .int ((n / 4 % many : Nat) : Int)) (by congr 1)) eva_nil))) ?_
    show _ = _
    rw [someS, if_pos h]
    rfl
  · have h : ¬ n % 4 = 1 := by simpa using h
    refine sxs_nil ?_
    refine sxs_if (t := decide (n % 4 = 2)) ((tst_cm (cm_eq (ev_var 3 rfl) ev_int)).to (by rw [decide_eq_decide]; omega)) (fun h2 => ?_) (fun h2 => ?_)
    · have h2 : n % 4 = 2 := by simpa using h2
      refine sxs_ret (ev_tup (eva_cons ev_str (eva_cons ((ev_mod (by omega) (ev_var 0 rfl) (ev_var 1 rfl)).to (e := .int ((n / 4 % many : Nat) : Int)) (by congr 1)) eva_nil))) ?_
      show _ = _
      rw [someS, if_neg h, if_pos h2]
      rfl
    · have h2 : ¬ n % 4 = 2 := by simpa using h2
      refine sxs_nil ?_
      refine sxs_set 4 ((ev_add ev_int (ev_mod (by decide) (ev_var 0 rfl) ev_int)).to (e := .int ((1 + n / 4 % 12 : Nat) : Int)) (by congr 1)) ?_ c.nd
      refine sxs_ifJ [some (fz (.int ((n / 4 : Nat) : Int))), none, none, none, some (fz (.int ((if big = true ∧ n / 4 / 12 % 4 = 1 then 1 + n / 4 / 48 % 60 else 1 + n / 4 % 12 : Nat) : Int)))] (tst_and2 (r := decide (big = true ∧ n / 4 / 12 % 4 = 1)) (tst_val (ev_var 2 rfl)) (fun _ => tst_cm (cm_eq (ev_mod (by decide) (ev_fdiv (by decide) (ev_var 0 rfl) ev_int) ev_int) ev_int)) (by
        rw [Bool.decide_and]
        congr 1
        · cases big <;> rfl
        · rw [decide_eq_decide]; omega)) (fun h3 => ?_) (fun h3 => ?_) ?_
      · have h3 : big = true ∧ n / 4 / 12 % 4 = 1 := of_decide_eq_true h3
        refine sxs_set 4 ((ev_add ev_int (ev_mod (by decide) (ev_fdiv (by decide) (ev_var 0 rfl) ev_int) ev_int)).to (e := .int ((1 + n / 4 / 48 % 60 : Nat) : Int)) (by congr 1)) ?_ c.nd
        refine sxs_nil (Wk.of ?_)
        rw [if_pos h3]
        exact wkl_some rfl (wkl_none (wkl_none (wkl_none (wkl_some rfl wkl_nil))))
      · have h3 : ¬ (big = true ∧ n / 4 / 12 % 4 = 1) := of_decide_eq_false h3
        refine sxs_nil (Wk.of ?_)
        rw [if_neg h3]
        exact wkl_some rfl (wkl_none (wkl_none (wkl_none (wkl_some rfl wkl_nil))))
      · generalize hsz : (if big = true ∧ n / 4 / 12 % 4 = 1 then 1 + n / 4 / 48 % 60 else 1 + n / 4 % 12) = size
        have hs1 : size ≤ 1000 := by rw [← hsz]; split <;> omega
        refine sxs_ret (ev_tup (eva_cons ev_str (eva_cons ((ev_call c G_signs (n / 4 / 2880, size) hs1 (fun _ h => h) (as_cons (Ev.s ((ev_fdiv (by decide) (ev_var 0 rfl) ev_int).to (e := .int ((n / 4 / 2880 : Nat) : Int)) (by congr 1))) (as_cons (Ev.s (ev_var 4 rfl)) as_nil))).to (e := .str (signsS (n / 4 / 2880) size)) rfl) eva_nil))) ?_
        show _ = _
        rw [someS, if_neg h, if_neg h2, hsz]
        rfl
end
end Tl

/-! The draws: rising places, the parts of words. -/
namespace Tl
open PySem PySem.Spec PyProof.Rows L2 PV
abbrev Part := Say × List Say
def partD (p : Part) : PyData := .tuple [sayD p.1, .list (p.2.map sayD)]
def footMany (r : Nat) : Nat := if r < 5 then 0 else if r = 5 then 1 else if r = 6 then 2 else 4
def footOf (m many len : Nat) (big : Bool) : List Say := (List.range many).map fun k => someS (mixN ((m * (k * k + 3 * k + 3) : Nat) : Int)) len big
def partOf (n left len : Nat) (big : Bool) : Part := (someS (n / 82944 / 8) len big, footOf (n / 82944) (min left (footMany (n / 82944 % 8))) len big)
def partGo (len : Nat) (big : Bool) : Nat → List Nat → List Part
  | _, [] => []
  | left, n :: ns => partOf n left len big :: partGo len big (left - min left (footMany (n / 82944 % 8))) ns
def partsOf (ns : List Nat) (big : Bool) : List Part := partGo ns.length big 40 ns
theorem many_at (r : Nat) (h : r < 8) : atI [PyData.int 0, .int 0, .int 0, .int 0, .int 0, .int 1, .int 2, .int 4] (r : Int) = some (.int ((footMany r : Nat) : Int)) := by
  have : r = 0 ∨ r = 1 ∨ r = 2 ∨ r = 3 ∨ r = 4 ∨ r = 5 ∨ r = 6 ∨ r = 7 := by omega
  rcases this with rfl | rfl | rfl | rfl | rfl | rfl | rfl | rfl <;> rfl
theorem footMany_le (r : Nat) : footMany r ≤ 4 := by unfold footMany; split <;> (try split) <;> (try split) <;> omega
theorem pl_ne (p q : Plc) : PyData.eqv (plD p) (plD q) = decide (p = q) := by
  rw [Bool.eq_iff_iff, cl_eqv 1 1 _ _ (pl_cl p) (pl_cl q), decide_eq_true_iff]
  unfold plD
  rw [PyData.tuple.injEq, List.cons.injEq, List.cons.injEq, PyData.int.injEq, PyData.int.injEq]
  constructor
  · rintro ⟨h1, h2, _⟩
    exact Prod.ext (by omega) (by omega)
  · rintro rfl
    exact ⟨rfl, rfl, rfl⟩
section
variable {P : Program} {w : World} {K : PySem.W.Frag} {mg : Str → Option Value} {base : Heap} {C : Ec → Addr}
abbrev C_rising (P : Program) (w : World) (K : PySem.W.Frag) (mg : Str → Option Value) (base : Heap) (C : Ec → Addr) := Callee P w K mg base 1 "_law_rising" (spP K C 3 (fun i : List Nat × Nat × Nat => [fz (.list (i.1.map natD)), fz (.int i.2.1), fz (.int i.2.2)]) (fun i => i.1.length ≤ 1000 ∧ 1 ≤ i.2.1 ∧ i.2.1 ≤ 6) (fun i => is (.ok (fz (.list ((rising i.1 i.2.1 i.2.2).map plD))))))
def envR (ns : List Nat) (b room : Nat) (dn : List Plc) (q : Plc) (cnt k n : Nat) (old : Plc) : PV.Env := [some (fz (.list (ns.map natD))), some (fz (.int b)), some (fz (.int room)), some (ow none (dn.map plD)), some (fz (.int q.1)), some (fz (.int q.2)), some (fz (.int cnt)), some (fz (.int k)), some (fz (.int n)), some (fz (plD old)), some (fz (.int ((n % 8 : Nat) : Int))), some (fz (.int ((n / 8 : Nat) : Int)))]
theorem ok_rising (Bt : Blt mg) (D : Df K mg "_law_rising" s_law_rising) : C_rising P w K mg base C := by
  refine callee_of D sc_law_rising (fun _ _ _ _ _ _ us hl => match us, hl with | [_, _, _], _ => rfl) (fun f cdv A outer s H E c i hi => ?_)
  obtain ⟨ns, b, room⟩ := i
  obtain ⟨hn, hb1, hb6⟩ := hi
  simp only at hn hb1 hb6
  show Sxs _ _ _ [some (fz (.list (ns.map natD))), some (fz (.int b)), some (fz (.int room)), none, none, none, none, none, none, none, none, none] _
  refine sxs_setF 3 (fr_lst eva_nil) ?_ c.nd
  refine sxs_set 4 ev_int ?_ c.nd
  refine sxs_set 5 ev_int ?_ c.nd
  refine sxs_set 6 ev_int ?_ c.nd
  refine sxs_forE natD ns (fun s : List Plc × Nat × Nat × Nat => [some (fz (.list (ns.map natD))), some (fz (.int b)), some (fz (.int room)), some (ow none (s.1.map plD)), some (fz (.int s.2.1)), some (fz (.int s.2.2.1)), some (fz (.int s.2.2.2)), none, none, none, none, none])
    (fun k s ys => s.1 ++ rGo b room k s.2 ys = rising ns b room ∧ s.1.length + ys.length ≤ 1000) ([], 0, 0, 0) c (iv_enum Bt (ev_var 0 rfl)) (tg_tup c.calm (tgs_cons 7 c.nd (tgs_cons 8 c.nd tgs_nil))) rfl (Wk.refl _) ⟨rfl, by simpa using hn⟩ (fun k s n ys hx hR => ?_) (fun s hR => ?_)
  · obtain ⟨dn, p, r, cnt⟩ := s
    obtain ⟨hR, hlen⟩ := hR
    simp only [List.length_cons] at hlen
    show Sxs _ _ _ [some (fz (.list (ns.map natD))), some (fz (.int b)), some (fz (.int room)), some (ow none (dn.map plD)), some (fz (.int p)), some (fz (.int r)), some (fz (.int cnt)), some (fz (.int k)), some (fz (.int n)), none, none, none] _
    refine sxs_set 9 ((ev_tup (eva_cons (ev_var 4 rfl) (eva_cons (ev_var 5 rfl) eva_nil))).to (e := plD (p, r)) rfl) ?_ c.nd
    refine sxs_set 10 ((ev_mod (by decide) (ev_var 8 rfl) ev_int).to (e := .int ((n % 8 : Nat) : Int)) (by congr 1)) ?_ c.nd
    refine sxs_set 11 ((ev_fdiv (by decide) (ev_var 8 rfl) ev_int).to (e := .int ((n / 8 : Nat) : Int)) (by congr 1)) ?_ c.nd
    have hq : rQ b room k n (p, r, cnt) = if k = 0 then (n / 8 % 3, n / 8 / 3 % 2 * (n / 8 / 6 % b)) else if 4 < n % 8 then (p + 1 + (if n % 8 = 7 ∧ p ≤ k then 1 else 0), n / 8 % 2 * (n / 8 / 2 % b)) else if 2 < n % 8 ∨ room ≤ cnt then (p + (r + 1) / b, (r + 1) % b) else (p, r) := rfl
    generalize hqq : rQ b room k n (p, r, cnt) = q at hq
    have wk : ∀ {a : PV.Env}, a = envR ns b room dn q cnt k n (p, r) → WkL a (envR ns b room dn q cnt k n (p, r)) := fun h => by
      subst h
      exact wkl_some rfl (wkl_some rfl (wkl_some rfl (wkl_some rfl (wkl_some rfl (wkl_some rfl (wkl_some rfl (wkl_some rfl (wkl_some rfl (wkl_some rfl (wkl_some rfl (wkl_some rfl wkl_nil)))))))))))
    refine sxs_ifJ (envR ns b room dn q cnt k n (p, r)) ((tst_cm (cm_eq (ev_var 7 rfl) ev_int)).to (q := decide (k = 0)) (by rw [decide_eq_decide]; omega)) (fun h => ?_) (fun h => ?_) ?_
    · have h : k = 0 := by simpa using h
      rw [if_pos h] at hq
      refine sxs_set 4 ((ev_mod (by decide) (ev_var 11 rfl) ev_int).to (e := .int ((n / 8 % 3 : Nat) : Int)) (by congr 1)) ?_ c.nd
      refine sxs_set 5 ((ev_mul (.inl ⟨by omega, by omega⟩) (ev_mod (by decide) (ev_fdiv (by decide) (ev_var 11 rfl) ev_int) ev_int) (ev_mod (by omega) (ev_fdiv (by decide) (ev_var 11 rfl) ev_int) (ev_var 1 rfl))).to (e := .int ((n / 8 / 3 % 2 * (n / 8 / 6 % b) : Nat) : Int)) (by congr 1)) ?_ c.nd
      refine sxs_nil (Wk.of (wk ?_))
      rw [hq]; rfl
    · have h : ¬ k = 0 := by simpa using h
      rw [if_neg h] at hq
      refine sxs_if (t := decide (4 < n % 8)) ((tst_cm (cm_gt (ev_var 10 rfl) ev_int)).to (by rw [decide_eq_decide]; omega)) (fun h2 => ?_) (fun h2 => ?_)
      · have h2 : 4 < n % 8 := by simpa using h2
        rw [if_pos h2] at hq
        refine sxs_set 4 ((ev_add (ev_add (ev_var 4 rfl) ev_int) (ev_intB Bt (ev_and (ev_cm (cm_eq (ev_var 10 rfl) ev_int)) fun h => (ev_bo1 (ev_cm (cm_le (ev_var 4 rfl) (ev_var 7 rfl))))))).to (e := .int ((p + 1 + (if n % 8 = 7 ∧ p ≤ k then 1 else 0) : Nat) : Int)) (by
          congr 1
          generalize n % 8 = st
          by_cases h7 : st = 7
          · subst h7
            by_cases hk : p ≤ k
            · have hk' : (p : Int) ≤ (k : Int) := by omega
              simp [hk, hk']
            · have hk' : ¬ (p : Int) ≤ (k : Int) := by omega
              simp [hk, hk']
          · have h7' : ¬ (st : Int) = 7 := by omega
            simp [h7, h7'])) ?_ c.nd
        refine sxs_set 5 ((ev_mul (.inl ⟨by omega, by omega⟩) (ev_mod (by decide) (ev_var 11 rfl) ev_int) (ev_mod (by omega) (ev_fdiv (by decide) (ev_var 11 rfl) ev_int) (ev_var 1 rfl))).to (e := .int ((n / 8 % 2 * (n / 8 / 2 % b) : Nat) : Int)) (by congr 1)) ?_ c.nd
        refine sxs_nil ?_
        refine sxs_nil (Wk.of (wk ?_))
        rw [hq]; rfl
      · have h2 : ¬ 4 < n % 8 := by simpa using h2
        rw [if_neg h2] at hq
        refine sxs_if (t := decide (2 < n % 8 ∨ room ≤ cnt)) (tst_or2 (tst_cm (cm_gt (ev_var 10 rfl) ev_int)) (fun _ => tst_cm (cm_ge (ev_var 6 rfl) (ev_var 2 rfl))) (by rw [Bool.decide_or]; congr 1 <;> rw [decide_eq_decide] <;> omega)) (fun h3 => ?_) (fun h3 => ?_)
        · have h3 : 2 < n % 8 ∨ room ≤ cnt := of_decide_eq_true h3
          rw [if_pos h3] at hq
          refine sxs_set 4 ((ev_add (ev_var 4 rfl) (ev_fdiv (by omega) (ev_add (ev_var 5 rfl) ev_int) (ev_var 1 rfl))).to (e := .int ((p + (r + 1) / b : Nat) : Int)) (by congr 1)) ?_ c.nd
          refine sxs_set 5 ((ev_mod (by omega) (ev_add (ev_var 5 rfl) ev_int) (ev_var 1 rfl)).to (e := .int (((r + 1) % b : Nat) : Int)) (by congr 1)) ?_ c.nd
          refine sxs_nil ?_
          refine sxs_nil ?_
          refine sxs_nil (Wk.of (wk ?_))
          rw [hq]; rfl
        · have h3 : ¬ (2 < n % 8 ∨ room ≤ cnt) := of_decide_eq_false h3
          rw [if_neg h3] at hq
          refine sxs_nil ?_
          refine sxs_nil ?_
          refine sxs_nil (Wk.of (wk ?_))
          rw [hq]; rfl
    · have hst : rStep b room k n (p, r, cnt) = (q.1, q.2, rC b room k n (p, r, cnt) + 1) := by rw [rStep, hqq]
      have hrc : rC b room k n (p, r, cnt) = if q ≠ (p, r) ∨ k = 0 then 0 else cnt := by rw [rC, hqq]
      generalize rC b room k n (p, r, cnt) = cn at hst hrc
      refine sxs_ifJ (envR ns b room dn q cn k n (p, r)) (tst_or2 (r := decide (q ≠ (p, r) ∨ k = 0)) (tst_cm (cm_neD (da := plD q) c (Ev.rv (ev_tup (eva_cons (ev_var 4 rfl) (eva_cons (ev_var 5 rfl) eva_nil)))) (Ev.rv (ev_var 9 rfl)) (cl_shaped (pl_cl q)) (cl_shaped (pl_cl (p, r))))) (fun _ => tst_cm (cm_eq (ev_var 7 rfl) ev_int)) (by
        rw [pl_ne, Bool.decide_or]
        congr 1
        · rw [decide_not]
        · rw [decide_eq_decide]; omega)) (fun h => ?_) (fun h => ?_) ?_
      · have h : q ≠ (p, r) ∨ k = 0 := of_decide_eq_true h
        rw [if_pos h] at hrc
        refine sxs_set 6 ev_int ?_ c.nd
        refine sxs_nil (Wk.of ?_)
        rw [hrc]
        exact wkl_some rfl (wkl_some rfl (wkl_some rfl (wkl_some rfl (wkl_some rfl (wkl_some rfl (wkl_some rfl (wkl_some rfl (wkl_some rfl (wkl_some rfl (wkl_some rfl (wkl_some rfl wkl_nil)))))))))))
      · have h : ¬ (q ≠ (p, r) ∨ k = 0) := of_decide_eq_false h
        rw [if_neg h] at hrc
        refine sxs_nil (Wk.of ?_)
        rw [hrc]
        exact wkl_some rfl (wkl_some rfl (wkl_some rfl (wkl_some rfl (wkl_some rfl (wkl_some rfl (wkl_some rfl (wkl_some rfl (wkl_some rfl (wkl_some rfl (wkl_some rfl (wkl_some rfl wkl_nil)))))))))))
      · refine sxs_set 6 ((ev_add (ev_var 6 rfl) ev_int).to (e := .int ((cn + 1 : Nat) : Int)) (by congr 1)) ?_ c.nd
        refine sxs_append 3 rfl ((ev_tup (eva_cons (ev_var 4 rfl) (eva_cons (ev_var 5 rfl) eva_nil))).to (e := plD q) rfl) (szl' (by rw [List.length_map]; omega)) ?_
        refine sxs_nil ⟨_, Wk.of ?_, (dn ++ [q], q.1, q.2, cn + 1), rfl, ?_, ?_⟩
        · rw [List.map_append]
          exact wkl_some rfl (wkl_some rfl (wkl_some rfl (wkl_some rfl (wkl_some rfl (wkl_some rfl (wkl_some rfl (wkl_none (wkl_none (wkl_none (wkl_none (wkl_none wkl_nil)))))))))))
        · rw [← hR]
          show (dn ++ [q]) ++ _ = dn ++ rGo b room k (p, r, cnt) (n :: ys)
          rw [rGo, hst, List.append_assoc]
          rfl
        · simp only [List.length_append, List.length_singleton]; omega
  · obtain ⟨dn, p, r, cnt⟩ := s
    refine sxs_freeze 3 rfl ?_
    refine sxs_ret (ev_var 3 rfl) ?_
    show _ = _
    have h := hR.1
    rw [rGo, List.append_nil] at h
    have h : dn = rising ns b room := h
    rw [← h]
end
end Tl

/-! The draws: the parts of words. -/
namespace Tl
open PySem PySem.Spec PyProof.Rows L2 PV
section
variable {P : Program} {w : World} {K : PySem.W.Frag} {mg : Str → Option Value} {base : Heap} {C : Ec → Addr}
abbrev C_parts (P : Program) (w : World) (K : PySem.W.Frag) (mg : Str → Option Value) (base : Heap) (C : Ec → Addr) := Callee P w K mg base 3 "_law_parts" (spP K C 2 (fun i : List Nat × Bool => [fz (.list (i.1.map natD)), fz (.bool i.2)]) (fun i => i.1.length ≤ 1000) (fun i => is (.ok (fz (.list ((partsOf i.1 i.2).map partD))))))
theorem ok_parts (Bt : Blt mg) (G_some : C_some P w K mg base C) (G_mixed : C_mixed P w K mg base C) (D : Df K mg "_law_parts" s_law_parts) : C_parts P w K mg base C := by
  refine callee_of D sc_law_parts (fun _ _ _ _ _ _ us hl => match us, hl with | [_, _], _ => rfl) (fun f cdv A outer s H E c i hi => ?_)
  obtain ⟨ns, big⟩ := i
  have hn : ns.length ≤ 1000 := hi
  show Sxs _ _ _ [some (fz (.list (ns.map natD))), some (fz (.bool big)), none, none, none, none, none, none, none] _
  refine sxs_set 2 ev_int ?_ c.nd
  refine sxs_setF 3 (fr_lst eva_nil) ?_ c.nd
  refine sxs_forL natD ns (fun s : List Part × Nat => [some (fz (.list (ns.map natD))), some (fz (.bool big)), some (fz (.int s.2)), some (ow none (s.1.map partD)), none, none, none, none, none])
    (fun s ys => s.1 ++ partGo ns.length big s.2 ys = partsOf ns big ∧ s.1.length + ys.length = ns.length) ([], 40) c (iv_list (ev_var 0 rfl)) (tg_name 4 c.nd) (Wk.refl _) ⟨rfl, by simp⟩ (fun s n ys hR => ⟨⟨(fun h => nomatch h), rfl⟩, ?_⟩) (fun s hR => ?_)
  · obtain ⟨dn, left⟩ := s
    obtain ⟨hR, hlen⟩ := hR
    simp only [List.length_cons] at hlen
    have hpos : 0 < ns.length := by omega
    show Sxs _ _ _ [some (fz (.list (ns.map natD))), some (fz (.bool big)), some (fz (.int left)), some (ow none (dn.map partD)), some (fz (.int n)), none, none, none, none] _
    refine sxs_set 4 ((ev_fdiv (by decide) (ev_var 4 rfl) ev_int).to (e := .int ((n / 82944 : Nat) : Int)) (by congr 1)) ?_ c.nd
    have hpart : partOf n left ns.length big = (someS (n / 82944 / 8) ns.length big, footOf (n / 82944) (min left (footMany (n / 82944 % 8))) ns.length big) := rfl
    generalize hmm : n / 82944 = m at hpart
    have hm8 : m % 8 < 8 := Nat.mod_lt _ (by decide)
    have hfm := footMany_le (m % 8)
    refine sxs_set 5 ((ev_min c Bt (ev_var 2 rfl) (ev_ixL (Bv.bw (Fr.bv (fr_lst (eva_cons ev_int (eva_cons ev_int (eva_cons ev_int (eva_cons ev_int (eva_cons ev_int (eva_cons ev_int (eva_cons ev_int (eva_cons ev_int eva_nil))))))))))) ((ev_mod (by decide) (ev_var 4 rfl) ev_int).to (e := .int ((m % 8 : Nat) : Int)) (by congr 1)) (many_at (m % 8) hm8))).to (e := .int ((min left (footMany (m % 8)) : Nat) : Int)) (by congr 1; omega)) ?_ c.nd
    generalize hmany : min left (footMany (m % 8)) = many at hpart
    have hmany4 : many ≤ 4 ∧ many ≤ left := by omega
    refine sxs_set 2 ((ev_sub (ev_var 2 rfl) (ev_var 5 rfl)).to (e := .int ((left - many : Nat) : Int)) (by congr 1; omega)) ?_ c.nd
    refine sxs_set 6 ((ev_call c G_some (m / 8, ns.length, big) hpos (fun _ h => h) (as_cons (Ev.s ((ev_fdiv (by decide) (ev_var 4 rfl) ev_int).to (e := .int ((m / 8 : Nat) : Int)) (by congr 1))) (as_cons (Ev.s ((ev_len Bt (Bv.bw (Ev.bv (ev_var 0 rfl)))).to (e := .int ((ns.length : Nat) : Int)) (by rw [List.length_map]))) (as_cons (Ev.s (ev_var 1 rfl)) as_nil)))).to (e := sayD (someS (m / 8) ns.length big)) rfl) ?_ c.nd
    refine sxs_setLc (ks := ((footOf m many ns.length big).map sayD).map some) 7 [("k", 8)] c (iv_range1 Bt (ev_var 5 rfl) (by omega) (by omega)) (fun s H Cc cl fp => have cb := c.blk s H Cc cl fp; tg_name 8 cb.nd) (szl (by rw [nums_length]; omega)) (by rw [nums_length]; simp [footOf]) (fun k d r hd hr => ?_) ?_
    · obtain ⟨hk, rfl⟩ := nums_of hd
      have hk : k < many := by omega
      have hr : r = some (sayD (someS (mixN ((m * (k * k + 3 * k + 3) : Nat) : Int)) ns.length big)) := by
        rw [footOf, List.map_map, List.map_map, List.getElem?_map, List.getElem?_range hk] at hr
        exact (Option.some.inj hr).symm
      subst hr
      refine ⟨⟨(fun h => nomatch h), rfl⟩, true, rfl, (fun h => nomatch h), fun _ => ⟨_, rfl, fun s H Cc cl fp => ?_⟩⟩
      have hkk : k * k ≤ 4 * 4 := Nat.mul_le_mul (by omega) (by omega)
      have e1 : (k : Int) * k + 3 * k + 3 = ((k * k + 3 * k + 3 : Nat) : Int) := by push_cast; rfl
      have hc : CMul (m : Int) ((k : Int) * k + 3 * k + 3) := .inr (by rw [e1]; generalize k * k = kk at hkk; omega)
      refine (ev_call (c.blk s H Cc cl fp) G_some (mixN ((m * (k * k + 3 * k + 3) : Nat) : Int), ns.length, big) hpos (fun _ h => h) (as_cons (Ev.s ((ev_call (c.blk s H Cc cl fp) G_mixed ((m * (k * k + 3 * k + 3) : Nat) : Int) trivial (fun _ h => h) (as_cons (Ev.s ((ev_mul hc (ev_var 4 rfl) (ev_add (ev_add (ev_mul (.inl ⟨by omega, by omega⟩) (ev_var 8 rfl) (ev_var 8 rfl)) (ev_mul (.inl ⟨by decide, by decide⟩) ev_int (ev_var 8 rfl))) ev_int)).to (by rw [e1]; congr 1))) as_nil)).to (congrArg PyData.int (mix_eq _)))) (as_cons (Ev.s ((ev_len Bt (Bv.bw (Ev.bv (ev_var 0 rfl)))).to (e := .int ((ns.length : Nat) : Int)) (by rw [List.length_map]))) (as_cons (Ev.s (ev_var 1 rfl)) as_nil)))).to rfl
    · rw [keep_all]
      refine sxs_freeze 7 rfl ?_
      refine sxs_append 3 rfl ((ev_tup (eva_cons (ev_var 6 rfl) (eva_cons (ev_var 7 rfl) eva_nil))).to (e := partD (partOf n left ns.length big)) (by rw [hpart]; rfl)) (szl' (by rw [List.length_map]; omega)) ?_
      refine sxs_nil ⟨_, Wk.of ?_, (dn ++ [partOf n left ns.length big], left - many), rfl, ?_, ?_⟩
      · rw [List.map_append]
        exact wkl_some rfl (wkl_some rfl (wkl_some rfl (wkl_some rfl (wkl_none (wkl_none (wkl_none (wkl_none (wkl_none wkl_nil))))))))
      · rw [← hR]
        show (dn ++ [_]) ++ _ = dn ++ partGo ns.length big left (n :: ys)
        rw [partGo, hmm, hmany, List.append_assoc]
        rfl
      · simp only [List.length_append, List.length_singleton]; omega
  · obtain ⟨dn, left⟩ := s
    refine sxs_freeze 3 rfl ?_
    refine sxs_ret (ev_var 3 rfl) ?_
    show _ = _
    have h := hR.1
    rw [partGo, List.append_nil] at h
    have h : dn = partsOf ns big := h
    rw [← h]
end
end Tl

/-! The draws: how wide and how high. -/
namespace Tl
open PySem PySem.Spec PyProof.Rows L2 PV
def maxN : List Nat → Nat
  | [] => 0
  | x :: xs => max x (maxN xs)
theorem le_maxN : ∀ {l : List Nat} {x : Nat}, x ∈ l → x ≤ maxN l
  | y :: l, x, h => by
    rw [maxN]
    rcases List.mem_cons.mp h with e | e
    · omega
    · have := le_maxN e; omega
theorem maxN_le : ∀ {l : List Nat} {b : Nat}, (∀ x ∈ l, x ≤ b) → maxN l ≤ b
  | [], _, _ => Nat.zero_le _
  | y :: l, b, h => by
    rw [maxN]
    have h1 := h y List.mem_cons_self
    have h2 := maxN_le fun x hx => h x (List.mem_cons_of_mem _ hx)
    omega
theorem maxN_is (l : List Nat) : ∀ m' : Int, m' ∈ l.map (fun n : Nat => (n : Int)) → (∀ y, y ∈ l.map (fun n : Nat => (n : Int)) → y ≤ m') → m' = ((maxN l : Nat) : Int) := fun m' h hy => by
  obtain ⟨x, hx, rfl⟩ := List.mem_map.mp h
  have h1 := le_maxN hx
  have h2 : maxN l ≤ x := maxN_le fun y hy' => by
    have := hy (y : Int) (List.mem_map.mpr ⟨y, hy', rfl⟩)
    omega
  omega
theorem natD_map (l : List Nat) : l.map natD = (l.map fun n : Nat => (n : Int)).map PyData.int := by rw [List.map_map]; rfl
abbrev Sz := Nat × Nat × Nat × Nat
def szRow (f : Frm) (ps : List Plc) (k : Nat) (p : Part) (s : Sz) : Nat := if 0 < k ∧ plAt ps (k - 1) = plAt ps k then s.2.2.1 + 1 + (said f ps p.1).length else (said f ps p.1).length
def szFeet (f : Frm) (ps : List Plc) (k : Nat) (p : Part) (s : Sz) : Nat := (if k = 0 ∨ (plAt ps (k - 1)).1 ≠ (plAt ps k).1 then 0 else s.2.2.2) + highBy f ps p.2
def szStep (f : Frm) (ps : List Plc) (k : Nat) (p : Part) (s : Sz) : Sz :=
  (maxN ([s.1, szRow f ps k p s] ++ p.2.map fun y => (said f ps y).length), max s.2.1 ((plAt ps k).2 + 1 + szFeet f ps k p s), szRow f ps k p s, szFeet f ps k p s)
def szGo (f : Frm) (ps : List Plc) : Nat → Sz → List Part → Sz
  | _, s, [] => s
  | k, s, p :: l => szGo f ps (k + 1) (szStep f ps k p s) l
def sizes (f : Frm) (parts : List Part) (ps : List Plc) : Nat × Nat := ((szGo f ps 0 (1, 1, 0, 0) parts).1, (szGo f ps 0 (1, 1, 0, 0) parts).2.1)
def okPart (n : Nat) (p : Part) : Prop := okSay n p.1 ∧ p.2.length ≤ 100 ∧ ∀ s ∈ p.2, okSay n s
structure okParts (f : Frm) (parts : List Part) (ps : List Plc) : Prop where
  frm : okFrm f
  pls : okPls ps
  len : parts.length = ps.length
  part : ∀ p ∈ parts, okPart ps.length p
section
variable {P : Program} {w : World} {K : PySem.W.Frag} {mg : Str → Option Value} {base : Heap} {C : Ec → Addr}
abbrev C_sizes (P : Program) (w : World) (K : PySem.W.Frag) (mg : Str → Option Value) (base : Heap) (C : Ec → Addr) := Callee P w K mg base 3 "_law_sizes" (spP K C 3 (fun i : Frm × List Part × List Plc => [fz (frD i.1), fz (.list (i.2.1.map partD)), fz (.list (i.2.2.map plD))]) (fun i => okParts i.1 i.2.1 i.2.2) (fun i => is (.ok (fz (plD (sizes i.1 i.2.1 i.2.2))))))
def envZ (f : Frm) (parts : List Part) (ps : List Plc) (wd hi rw ft k : Nat) (p : Part) (sz : Nat) : PV.Env := [some (fz (frD f)), some (fz (.list (parts.map partD))), some (fz (.list (ps.map plD))), some (fz (.int wd)), some (fz (.int hi)), some (fz (.int rw)), some (fz (.int ft)), some (fz (.int k)), some (fz (partD p)), some (fz (.int sz)), none]
theorem ok_sizes (Bt : Blt mg) (G_said_by : C_said_by P w K mg base C) (G_high_by : C_high_by P w K mg base C) (D : Df K mg "_law_sizes" s_law_sizes) : C_sizes P w K mg base C := by
  refine callee_of D sc_law_sizes (fun _ _ _ _ _ _ us hl => match us, hl with | [_, _, _], _ => rfl) (fun f cdv A outer s H E c i hi => ?_)
  obtain ⟨fm, parts, ps⟩ := i
  have hi : okParts fm parts ps := hi
  show Sxs _ _ _ [some (fz (frD fm)), some (fz (.list (parts.map partD))), some (fz (.list (ps.map plD))), none, none, none, none, none, none, none, none] _
  refine sxs_set 3 ev_int ?_ c.nd
  refine sxs_set 4 ev_int ?_ c.nd
  refine sxs_set 5 ev_int ?_ c.nd
  refine sxs_set 6 ev_int ?_ c.nd
  refine sxs_forE partD parts (fun s : Sz => [some (fz (frD fm)), some (fz (.list (parts.map partD))), some (fz (.list (ps.map plD))), some (fz (.int s.1)), some (fz (.int s.2.1)), some (fz (.int s.2.2.1)), some (fz (.int s.2.2.2)), none, none, none, none])
    (fun k s ys => szGo fm ps k s ys = szGo fm ps 0 (1, 1, 0, 0) parts) (1, 1, 0, 0) c (iv_enum Bt (ev_var 1 rfl)) (tg_tup c.calm (tgs_cons 7 c.nd (tgs_cons 8 c.nd tgs_nil))) rfl (Wk.refl _) rfl (fun k s p ys hx hR => ?_) (fun s hR => ?_)
  · rw [szGo] at hR
    have hstep : szStep fm ps k p s = (maxN ([s.1, szRow fm ps k p s] ++ p.2.map fun y => (said fm ps y).length), max s.2.1 ((plAt ps k).2 + 1 + szFeet fm ps k p s), szRow fm ps k p s, szFeet fm ps k p s) := rfl
    have hrow : szRow fm ps k p s = if 0 < k ∧ plAt ps (k - 1) = plAt ps k then s.2.2.1 + 1 + (said fm ps p.1).length else (said fm ps p.1).length := rfl
    have hfeet : szFeet fm ps k p s = (if k = 0 ∨ (plAt ps (k - 1)).1 ≠ (plAt ps k).1 then 0 else s.2.2.2) + highBy fm ps p.2 := rfl
    generalize szRow fm ps k p s = rw' at hstep hrow
    generalize szFeet fm ps k p s = ft' at hstep hfeet
    obtain ⟨wd, hg, rw0, ft⟩ := s
    simp only at hstep hrow hfeet
    have hp := hi.part p (List.mem_of_getElem? hx)
    have hkl : k < ps.length := hi.len ▸ (List.getElem?_eq_some_iff.mp hx).1
    have hk := plAt_get hkl
    have hsz := said_len hi.frm hi.pls hp.1
    show Sxs _ _ _ [some (fz (frD fm)), some (fz (.list (parts.map partD))), some (fz (.list (ps.map plD))), some (fz (.int wd)), some (fz (.int hg)), some (fz (.int rw0)), some (fz (.int ft)), some (fz (.int k)), some (fz (partD p)), none, none] _
    refine sxs_set 9 ((ev_lenS Bt ((ev_call c G_said_by (fm, p.1, ps) ⟨hi.frm, hi.pls, hp.1⟩ (fun _ h => h) (as_cons (Ev.s (ev_var 0 rfl)) (as_cons (Ev.s (ev_ixT (ev_var 8 rfl) ev_int rfl)) (as_cons (Ev.s (ev_var 2 rfl)) as_nil)))).to (e := .str (said fm ps p.1)) rfl) (szl (by omega)))) ?_ c.nd
    have sub1 : 0 < k → (k : Int) - 1 = ((k - 1 : Nat) : Int) := fun h => by omega
    have hk1 : 0 < k → ps[k - 1]? = some (plAt ps (k - 1)) := fun h => plAt_get (by omega)
    refine sxs_ifJ (envZ fm parts ps wd hg rw' ft k p (said fm ps p.1).length) (t := decide (0 < k ∧ plAt ps (k - 1) = plAt ps k)) ?_ (fun h => ?_) (fun h => ?_) ?_
    · by_cases h0 : 0 < k
      · refine tst_and2 (tst_cm (cm_gt (ev_var 7 rfl) ev_int)) (fun _ => tst_cm (cm_eqD c (Ev.rv (ev_ixL (Bv.bw (Ev.bv (ev_var 2 rfl))) ((ev_sub (ev_var 7 rfl) ev_int).to (congrArg PyData.int (sub1 h0))) (atI_map plD (hk1 h0)))) (Ev.rv (ev_ixL (Bv.bw (Ev.bv (ev_var 2 rfl))) (ev_var 7 rfl) (atI_map plD hk))) (cl_shaped (pl_cl _)) (cl_shaped (pl_cl _)))) ?_
        rw [pl_ne, Bool.decide_and]
        congr 1
        rw [decide_eq_decide]; omega
      · refine tst_and2 (p := false) (q := false) ((tst_cm (cm_gt (ev_var 7 rfl) ev_int)).to (by rw [decide_eq_false_iff_not]; omega)) (fun h => nomatch h) ?_
        rw [decide_eq_false (fun h => h0 h.1)]; rfl
    · have h := of_decide_eq_true h
      rw [if_pos h] at hrow
      refine sxs_set 5 ((ev_add (ev_add (ev_var 5 rfl) ev_int) (ev_var 9 rfl)).to (e := .int ((rw0 + 1 + (said fm ps p.1).length : Nat) : Int)) (by congr 1)) ?_ c.nd
      refine sxs_nil (Wk.of ?_)
      rw [hrow]
      exact wkl_some rfl (wkl_some rfl (wkl_some rfl (wkl_some rfl (wkl_some rfl (wkl_some rfl (wkl_some rfl (wkl_some rfl (wkl_some rfl (wkl_some rfl (wkl_none wkl_nil))))))))))
    · have h := of_decide_eq_false h
      rw [if_neg h] at hrow
      refine sxs_set 5 (ev_var 9 rfl) ?_ c.nd
      refine sxs_nil (Wk.of ?_)
      rw [hrow]
      exact wkl_some rfl (wkl_some rfl (wkl_some rfl (wkl_some rfl (wkl_some rfl (wkl_some rfl (wkl_some rfl (wkl_some rfl (wkl_some rfl (wkl_some rfl (wkl_none wkl_nil))))))))))
    · generalize hft0 : (if k = 0 ∨ (plAt ps (k - 1)).1 ≠ (plAt ps k).1 then 0 else ft) = ft0 at hfeet
      refine sxs_ifJ (envZ fm parts ps wd hg rw' ft0 k p (said fm ps p.1).length) (t := decide (k = 0 ∨ (plAt ps (k - 1)).1 ≠ (plAt ps k).1)) ?_ (fun h => ?_) (fun h => ?_) ?_
      · by_cases h0 : 0 < k
        · refine tst_or2 (tst_cm (cm_eq (ev_var 7 rfl) ev_int)) (fun _ => tst_cm (cm_ne (ev_ixT (ev_ixL (Bv.bw (Ev.bv (ev_var 2 rfl))) ((ev_sub (ev_var 7 rfl) ev_int).to (congrArg PyData.int (sub1 h0))) (atI_map plD (hk1 h0))) ev_int rfl) (ev_ixT (ev_ixL (Bv.bw (Ev.bv (ev_var 2 rfl))) (ev_var 7 rfl) (atI_map plD hk)) ev_int rfl))) ?_
          rw [Bool.decide_or, ← decide_not]
          congr 1 <;> rw [decide_eq_decide] <;> omega
        · refine tst_or2 (p := true) (q := false) ((tst_cm (cm_eq (ev_var 7 rfl) ev_int)).to (by rw [decide_eq_true_iff]; omega)) (fun h => nomatch h) ?_
          rw [decide_eq_true (.inl (by omega))]; rfl
      · have h := of_decide_eq_true h
        rw [if_pos h] at hft0
        refine sxs_set 6 ev_int ?_ c.nd
        refine sxs_nil (Wk.of ?_)
        rw [← hft0]
        exact wkl_some rfl (wkl_some rfl (wkl_some rfl (wkl_some rfl (wkl_some rfl (wkl_some rfl (wkl_some rfl (wkl_some rfl (wkl_some rfl (wkl_some rfl (wkl_none wkl_nil))))))))))
      · have h := of_decide_eq_false h
        rw [if_neg h] at hft0
        refine sxs_nil (Wk.of ?_)
        rw [← hft0]
        exact wkl_some rfl (wkl_some rfl (wkl_some rfl (wkl_some rfl (wkl_some rfl (wkl_some rfl (wkl_some rfl (wkl_some rfl (wkl_some rfl (wkl_some rfl (wkl_none wkl_nil))))))))))
      · refine sxs_set 6 ((ev_add (ev_var 6 rfl) ((ev_call c G_high_by (fm, p.2, ps) ⟨hi.frm, hi.pls, hp.2⟩ (fun _ h => h) (as_cons (Ev.s (ev_var 0 rfl)) (as_cons (Ev.s (ev_ixT (ev_var 8 rfl) ev_int rfl)) (as_cons (Ev.s (ev_var 2 rfl)) as_nil)))).to (e := .int ((highBy fm ps p.2 : Nat) : Int)) rfl)).to (e := .int ((ft' : Nat) : Int)) (by rw [hfeet]; congr 1)) ?_ c.nd
        refine sxs_set 4 ((ev_max c Bt (ev_var 4 rfl) (ev_add (ev_add (ev_ixT (ev_ixL (Bv.bw (Ev.bv (ev_var 2 rfl))) (ev_var 7 rfl) (atI_map plD hk)) ev_int rfl) ev_int) (ev_var 6 rfl))).to (e := .int ((max hg ((plAt ps k).2 + 1 + ft') : Nat) : Int)) (by congr 1; omega)) ?_ c.nd
        refine sxs_set 3 ((ev_maxL (ns := ([wd, rw'] ++ p.2.map fun y => (said fm ps y).length).map fun n : Nat => (n : Int)) (m := ((maxN ([wd, rw'] ++ p.2.map fun y => (said fm ps y).length) : Nat) : Int)) c Bt (Bv.bw (Fr.bv (Fr.to (fr_cat (Fr.bv (fr_lst (eva_cons (ev_var 3 rfl) (eva_cons (ev_var 5 rfl) eva_nil)))) (Fr.bv (Fr.to (fr_lc (ks := ((p.2.map fun y => (said fm ps y).length).map natD).map some) [("one", 10)] c (iv_list (ev_ixT (ev_var 8 rfl) ev_int rfl)) (fun s H Cc cl fp => have cb := c.blk s H Cc cl fp; tg_name 10 cb.nd) (szl (by rw [List.length_map]; have := hp.2.1; omega)) (by simp) (fun j d r hd hr => ?_)) (keep_all _))) (szl (by simp only [List.length_map, List.length_cons, List.length_nil]; have := hp.2.1; omega))) ?_))) (by simp) (maxN_is _))) ?_ c.nd
        · rw [List.getElem?_map] at hd
          obtain ⟨y, hy, rfl⟩ := Option.map_eq_some_iff.mp hd
          rw [List.getElem?_map, List.getElem?_map, List.getElem?_map, hy] at hr
          obtain rfl := (Option.some.inj hr).symm
          have hys := hp.2.2 y (List.mem_of_getElem? hy)
          have hyl := said_len hi.frm hi.pls hys
          refine ⟨⟨(fun h => nomatch h), rfl⟩, true, rfl, (fun h => nomatch h), fun _ => ⟨_, rfl, fun s H Cc cl fp => ?_⟩⟩
          exact ev_lenS Bt ((ev_call (c.blk s H Cc cl fp) G_said_by (fm, y, ps) ⟨hi.frm, hi.pls, hys⟩ (fun _ h => h) (as_cons (Ev.s (ev_var 0 rfl)) (as_cons (Ev.s (ev_var 10 rfl)) (as_cons (Ev.s (ev_var 2 rfl)) as_nil)))).to (e := .str (said fm ps y)) rfl) (szl (by omega))
        · rw [← natD_map, List.map_append]; rfl
        · refine sxs_nil ⟨_, Wk.of ?_, szStep fm ps k p (wd, hg, rw0, ft), rfl, hR⟩
          rw [hstep]
          exact wkl_some rfl (wkl_some rfl (wkl_some rfl (wkl_some rfl (wkl_some rfl (wkl_some rfl (wkl_some rfl (wkl_none (wkl_none (wkl_none (wkl_none wkl_nil))))))))))
  · rw [szGo] at hR
    refine sxs_ret (ev_tup (eva_cons (ev_var 3 rfl) (eva_cons (ev_var 4 rfl) eva_nil))) ?_
    show _ = _
    rw [sizes, ← hR]
    rfl
end
end Tl

/-! The draws: the fitting form. -/
namespace Tl
open PySem PySem.Spec PyProof.Rows L2 PV
theorem sum_cast : ∀ l : List Nat, (l.map fun n : Nat => (n : Int)).sum = ((l.sum : Nat) : Int)
  | [] => rfl
  | n :: l => by rw [List.map_cons, List.sum_cons, List.sum_cons, sum_cast l, Int.natCast_add]
theorem szGo_wide {f : Frm} {ps : List Plc} {n : Nat} (hf : okFrm f) (hp : okPls ps) : ∀ (parts : List Part) (k : Nat) (s : Sz) (B : Nat), (∀ p ∈ parts, okPart n p) → s.1 ≤ B → 100 ≤ B → s.2.2.1 + 101 * parts.length ≤ B → (szGo f ps k s parts).1 ≤ B
  | [], _, _, _, _, h, _, _ => h
  | p :: l, k, s, B, hpt, h1, h2, h3 => by
    rw [szGo]
    have hpp := hpt p List.mem_cons_self
    have hl := said_len hf hp hpp.1
    rw [List.length_cons] at h3
    have hrow : szRow f ps k p s ≤ s.2.2.1 + 101 := by unfold szRow; split <;> omega
    refine szGo_wide hf hp l (k + 1) _ B (fun q hq => hpt q (List.mem_cons_of_mem _ hq)) ?_ h2 (by show szRow f ps k p s + _ ≤ B; omega)
    refine maxN_le fun x hx => ?_
    rcases List.mem_append.mp hx with z | z
    · have z : x = s.1 ∨ x = szRow f ps k p s := by simpa using z
      rcases z with z | z <;> omega
    · obtain ⟨y, hy, rfl⟩ := List.mem_map.mp z
      exact Nat.le_trans (said_len hf hp (hpp.2.2 y hy)) h2
theorem sizes_wide {f : Frm} {parts : List Part} {ps : List Plc} (h : okParts f parts ps) : (sizes f parts ps).1 ≤ 20000 :=
  szGo_wide h.frm h.pls parts 0 _ 20000 h.part (by decide) (by decide) (by have := h.len; have := h.pls.1; show 0 + _ ≤ _; omega)
def mostOf (parts : List Part) (base : Nat) : Nat := base + (parts.map fun p => p.2.length).sum
def wideOf (parts : List Part) (ps : List Plc) (base first number : Nat) : Nat := (sizes ⟨200, mostOf parts base, first, 60⟩ parts ps).1 + number % 2 * (number / 2 % 6)
def highOf (parts : List Part) (ps : List Plc) (base first number : Nat) : Nat := min (mostOf parts base) (max base (sizes ⟨wideOf parts ps base first number, mostOf parts base, first, 60⟩ parts ps).2 + number / 12 % 2)
def lastOf (ps : List Plc) : Nat := match ps.getLast? with
  | none => 0
  | some p => p.1
def fitting (parts : List Part) (ps : List Plc) (base first number : Nat) : Frm := ⟨wideOf parts ps base first number, highOf parts ps base first number, first, lastOf ps + 1 + number / 24 % 4⟩
structure okDraw (parts : List Part) (ps : List Plc) (base first : Nat) : Prop where
  pls : okPls ps
  len : parts.length = ps.length
  part : ∀ p ∈ parts, okPart ps.length p
  base : base ≤ 6
  first : first ≤ 10 ^ 70
  foot : (parts.map fun p => p.2.length).sum ≤ 900
theorem okDraw.at_ {parts : List Part} {ps : List Plc} {base first : Nat} (h : okDraw parts ps base first) {wd : Nat} (hw : wd ≤ 1000000) : okParts ⟨wd, mostOf parts base, first, 60⟩ parts ps :=
  ⟨⟨hw, by have := h.base; have := h.foot; show base + _ ≤ 1000; omega, h.first, by show 60 ≤ 1000000; decide⟩, h.pls, h.len, h.part⟩
theorem wide_le {parts : List Part} {ps : List Plc} {base first : Nat} (h : okDraw parts ps base first) (number : Nat) : wideOf parts ps base first number ≤ 20006 := by
  have h1 := sizes_wide (h.at_ (wd := 200) (by decide))
  have h2 : number % 2 * (number / 2 % 6) ≤ 1 * 5 := Nat.mul_le_mul (by omega) (by omega)
  unfold wideOf
  omega
section
variable {P : Program} {w : World} {K : PySem.W.Frag} {mg : Str → Option Value} {base : Heap} {C : Ec → Addr}
structure InFit where
  parts : List Part
  ps : List Plc
  bs : Nat
  first : Nat
  number : Nat
abbrev C_fitting (P : Program) (w : World) (K : PySem.W.Frag) (mg : Str → Option Value) (base : Heap) (C : Ec → Addr) := Callee P w K mg base 4 "_law_fitting" (spP K C 5 (fun i : InFit => [fz (.list (i.parts.map partD)), fz (.list [.list (i.ps.map plD)]), fz (.int i.bs), fz (.int i.first), fz (.int i.number)]) (fun i => okDraw i.parts i.ps i.bs i.first) (fun i => is (.ok (fz (frD (fitting i.parts i.ps i.bs i.first i.number))))))
theorem ok_fitting (Bt : Blt mg) (G_sizes : C_sizes P w K mg base C) (D : Df K mg "_law_fitting" s_law_fitting) : C_fitting P w K mg base C := by
  refine callee_of D sc_law_fitting (fun _ _ _ _ _ _ us hl => match us, hl with | [_, _, _, _, _], _ => rfl) (fun f cdv A outer s H E c i hi => ?_)
  obtain ⟨parts, ps, b, first, number⟩ := i
  have hi : okDraw parts ps b first := hi
  have hlen := hi.pls.1
  have hpl := hi.len
  show Sxs _ _ _ [some (fz (.list (parts.map partD))), some (fz (.list [.list (ps.map plD)])), some (fz (.int b)), some (fz (.int first)), some (fz (.int number)), none, none, none, none, none, none] _
  refine sxs_set 5 ((ev_add (ev_var 2 rfl) (ev_sum (ns := (parts.map fun p => p.2.length).map fun n : Nat => (n : Int)) c Bt (Bv.bw (Fr.bv (Fr.to (fr_lc (ks := ((parts.map fun p => p.2.length).map natD).map some) [("part", 10)] c (iv_list (ev_var 0 rfl)) (fun s H Cc cl fp => have cb := c.blk s H Cc cl fp; tg_name 10 cb.nd) (szl (by rw [List.length_map]; omega)) (by simp) (fun j d r hd hr => ?_)) ((keep_all _).trans (natD_map _))))))).to (e := .int ((mostOf parts b : Nat) : Int)) (by rw [sum_cast, mostOf, Int.natCast_add])) ?_ c.nd
  · rw [List.getElem?_map] at hd
    obtain ⟨y, hy, rfl⟩ := Option.map_eq_some_iff.mp hd
    rw [List.getElem?_map, List.getElem?_map, List.getElem?_map, hy] at hr
    obtain rfl := (Option.some.inj hr).symm
    refine ⟨⟨(fun h => nomatch h), rfl⟩, true, rfl, (fun h => nomatch h), fun _ => ⟨_, rfl, fun s H Cc cl fp => ?_⟩⟩
    exact (ev_len Bt (Bv.bw (Ev.bv (ev_ixT (ev_var 10 rfl) ev_int rfl)))).to (by rw [List.length_map])
  have one : ∀ {d : PyData} {j : Nat} {x : PyData} {r o : Option PyData}, [x][j]? = some d → [o][j]? = some r → d = x ∧ r = o := fun h1 h2 => by
    rename_i d j x r o
    cases j with
    | zero => exact ⟨(Option.some.inj h1).symm, (Option.some.inj h2).symm⟩
    | succ j => simp at h1
  refine sxs_set 6 ((ev_maxL (ns := [(((sizes ⟨200, mostOf parts b, first, 60⟩ parts ps).1 : Nat) : Int)]) (m := (((sizes ⟨200, mostOf parts b, first, 60⟩ parts ps).1 : Nat) : Int)) c Bt (Bv.bw (Fr.bv (fr_lc (ks := [some (natD (sizes ⟨200, mostOf parts b, first, 60⟩ parts ps).1)]) [("places", 9)] c (iv_list (ev_var 1 rfl)) (fun s H Cc cl fp => have cb := c.blk s H Cc cl fp; tg_name 9 cb.nd) (szl (by simp)) rfl (fun j d r hd hr => ?_)))) (by simp) (fun m' h _ => by simpa using h))) ?_ c.nd
  · obtain ⟨rfl, rfl⟩ := one hd hr
    refine ⟨⟨(fun h => nomatch h), rfl⟩, true, rfl, (fun h => nomatch h), fun _ => ⟨_, rfl, fun s H Cc cl fp => ?_⟩⟩
    exact ev_ixT ((ev_call (c.blk s H Cc cl fp) G_sizes (⟨200, mostOf parts b, first, 60⟩, parts, ps) (hi.at_ (by decide)) (fun _ h => h) (as_cons (Ev.s (ev_tup (eva_cons ev_int (eva_cons (ev_var 5 rfl) (eva_cons (ev_var 3 rfl) (eva_cons ev_int eva_nil)))))) (as_cons (Ev.s (ev_var 0 rfl)) (as_cons (Ev.s (ev_var 9 rfl)) as_nil)))).to (e := plD (sizes ⟨200, mostOf parts b, first, 60⟩ parts ps)) rfl) ev_int rfl
  refine sxs_set 6 ((ev_add (ev_var 6 rfl) (ev_mul (.inl ⟨by omega, by omega⟩) (ev_mod (by decide) (ev_var 4 rfl) ev_int) (ev_mod (by decide) (ev_fdiv (by decide) (ev_var 4 rfl) ev_int) ev_int))).to (e := .int ((wideOf parts ps b first number : Nat) : Int)) (by congr 1)) ?_ c.nd
  have hwd := wide_le hi number
  generalize hww : wideOf parts ps b first number = wd at hwd
  have hok := hi.at_ (wd := wd) (by omega)
  refine sxs_set 7 ((ev_maxL (ns := ([b, (sizes ⟨wd, mostOf parts b, first, 60⟩ parts ps).2]).map fun n : Nat => (n : Int)) (m := ((maxN [b, (sizes ⟨wd, mostOf parts b, first, 60⟩ parts ps).2] : Nat) : Int)) c Bt (Bv.bw (Fr.bv (fr_cat (Fr.bv (fr_lst (eva_cons (ev_var 2 rfl) eva_nil))) (Fr.bv (fr_lc (ks := [some (natD (sizes ⟨wd, mostOf parts b, first, 60⟩ parts ps).2)]) [("places", 9)] c (iv_list (ev_var 1 rfl)) (fun s H Cc cl fp => have cb := c.blk s H Cc cl fp; tg_name 9 cb.nd) (szl (by simp)) rfl (fun j d r hd hr => ?_))) (szl (by simp))))) (by simp) (maxN_is _)).to (e := .int ((max b (sizes ⟨wd, mostOf parts b, first, 60⟩ parts ps).2 : Nat) : Int)) (by congr 2; simp [maxN])) ?_ c.nd
  · obtain ⟨rfl, rfl⟩ := one hd hr
    refine ⟨⟨(fun h => nomatch h), rfl⟩, true, rfl, (fun h => nomatch h), fun _ => ⟨_, rfl, fun s H Cc cl fp => ?_⟩⟩
    exact ev_ixT ((ev_call (c.blk s H Cc cl fp) G_sizes (⟨wd, mostOf parts b, first, 60⟩, parts, ps) hok (fun _ h => h) (as_cons (Ev.s (ev_tup (eva_cons (ev_var 6 rfl) (eva_cons (ev_var 5 rfl) (eva_cons (ev_var 3 rfl) (eva_cons ev_int eva_nil)))))) (as_cons (Ev.s (ev_var 0 rfl)) (as_cons (Ev.s (ev_var 9 rfl)) as_nil)))).to (e := plD (sizes ⟨wd, mostOf parts b, first, 60⟩ parts ps)) rfl) ev_int rfl
  refine sxs_set 7 ((ev_min c Bt (ev_var 5 rfl) (ev_add (ev_var 7 rfl) (ev_mod (by decide) (ev_fdiv (by decide) (ev_var 4 rfl) ev_int) ev_int))).to (e := .int ((highOf parts ps b first number : Nat) : Int)) (by rw [highOf, hww]; congr 1; omega)) ?_ c.nd
  have hfin : ∀ ks : List (Option PyData), ks = (if ps = [] then [none] else [some (natD (lastOf ps))]) → [PyData.int 0] ++ ks.filterMap id = ((0 :: (if ps = [] then [] else [lastOf ps])).map fun n : Nat => (n : Int)).map PyData.int := fun ks h => by
    subst h
    by_cases h : ps = [] <;> simp [h]
  refine sxs_set 8 ((ev_maxL (ns := (0 :: (if ps = [] then [] else [lastOf ps])).map fun n : Nat => (n : Int)) (m := ((maxN (0 :: (if ps = [] then [] else [lastOf ps])) : Nat) : Int)) c Bt (Bv.bw (Fr.bv (Fr.to (fr_cat (Fr.bv (fr_lst (eva_cons ev_int eva_nil))) (Fr.bv (fr_lc (ks := if ps = [] then [none] else [some (natD (lastOf ps))]) [("places", 9)] c (iv_list (ev_var 1 rfl)) (fun s H Cc cl fp => have cb := c.blk s H Cc cl fp; tg_name 9 cb.nd) (szl (by simp)) (by split <;> rfl) (fun j d r hd hr => ?_))) (by by_cases h : ps = [] <;> simp [h, sizeLine])) (hfin _ rfl)))) (by simp) (maxN_is _)).to (e := .int ((lastOf ps : Nat) : Int)) (by congr 2; by_cases h : ps = [] <;> simp [h, maxN, lastOf])) ?_ c.nd
  · have hcm : ∀ (s : Shared) (H : Hp) (Cc : Addr) (cl : List (Str × Addr)) (fp : List Addr), True := fun _ _ _ _ _ => trivial
    by_cases h : ps = []
    · rw [if_pos h] at hr
      obtain ⟨rfl, rfl⟩ := one hd hr
      refine ⟨⟨(fun h => nomatch h), rfl⟩, false, fun s H Cc cl fp => ?_, (fun _ => rfl), fun z => nomatch z⟩
      exact (tst_cm (cm_neD (c.blk s H Cc cl fp) (Ev.rv (ev_var 9 rfl)) (Bv.rv (Fr.bv (fr_lst eva_nil))) (cl_shaped (pls_cl ps)) (cl_shaped nil_cl))).to (by rw [eqv_nil, h]; rfl)
    · rw [if_neg h] at hr
      obtain ⟨rfl, rfl⟩ := one hd hr
      obtain ⟨l, hl⟩ : ∃ l, ps.getLast? = some l := ⟨ps.getLast h, List.getLast?_eq_some_getLast h⟩
      have hlo : lastOf ps = l.1 := by unfold lastOf; rw [hl]
      refine ⟨⟨(fun h => nomatch h), rfl⟩, true, fun s H Cc cl fp => ?_, (fun z => nomatch z), fun _ => ⟨_, rfl, fun s H Cc cl fp => ?_⟩⟩
      · exact (tst_cm (cm_neD (c.blk s H Cc cl fp) (Ev.rv (ev_var 9 rfl)) (Bv.rv (Fr.bv (fr_lst eva_nil))) (cl_shaped (pls_cl ps)) (cl_shaped nil_cl))).to (by rw [eqv_nil, decide_eq_false (fun z => h (List.map_eq_nil_iff.mp z))]; rfl)
      · exact (ev_ixT (ev_ixL (Bv.bw (Ev.bv (ev_var 9 rfl))) (ev_neg ev_int) (atI_last plD hl)) ev_int rfl).to (by rw [hlo])
  refine sxs_ret (ev_tup (eva_cons (ev_var 6 rfl) (eva_cons (ev_var 7 rfl) (eva_cons (ev_var 3 rfl) (eva_cons ((ev_add (ev_add (ev_var 8 rfl) ev_int) (ev_mod (by decide) (ev_fdiv (by decide) (ev_var 4 rfl) ev_int) ev_int)).to (e := .int ((lastOf ps + 1 + number / 24 % 4 : Nat) : Int)) (by congr 1)) eva_nil))))) ?_
  show _ = _
  rw [fitting, hww]
  rfl
end
end Tl

/-! The draws: what leads are let. -/
namespace Tl
open PySem PySem.Spec PyProof.Rows L2 PV
def behindBy (f : Frm) (p : Plc) (lead : Nat) : Plc :=
  if lead < 2 then ((p.1 * f.high + p.2 + lead) / f.high, (p.1 * f.high + p.2 + lead) % f.high) else if lead = 2 ∧ p.2 + 2 < f.high then (p.1, p.2 + 2) else if lead = 4 ∧ (f.first + p.1) % 2 = 1 then (p.1 + 2, 0) else (p.1 + 1, 0)
def sooner (a b : Plc) : Bool := decide (a.1 < b.1 ∨ (a.1 = b.1 ∧ a.2 < b.2))
section
variable {P : Program} {w : World} {K : PySem.W.Frag} {mg : Str → Option Value} {base : Heap} {C : Ec → Addr}
abbrev C_behind_by (P : Program) (w : World) (K : PySem.W.Frag) (mg : Str → Option Value) (base : Heap) (C : Ec → Addr) := Callee P w K mg base 1 "_law_behind_by" (spP K C 3 (fun i : Frm × Plc × Nat => [fz (frD i.1), fz (plD i.2.1), fz (.int i.2.2)]) (fun i => 0 < i.1.high ∧ i.1.high ≤ 1000) (fun i => is (.ok (fz (plD (behindBy i.1 i.2.1 i.2.2))))))
theorem ok_behind_by (D : Df K mg "_law_behind_by" s_law_behind_by) : C_behind_by P w K mg base C := by
  refine callee_of D sc_law_behind_by (fun _ _ _ _ _ _ us hl => match us, hl with | [_, _, _], _ => rfl) (fun f cdv A outer s H E c i hi => ?_)
  obtain ⟨fm, p, lead⟩ := i
  obtain ⟨h0, h1⟩ := hi
  simp only at h0 h1
  show Sxs _ _ _ [some (fz (frD fm)), some (fz (plD p)), some (fz (.int lead)), none, none, none, none] _
  refine sxs_unpack (tg_tup c.calm (tgs_cons 3 c.nd (tgs_cons 4 c.nd tgs_nil))) (ev_var 1 rfl) rfl ?_
  refine sxs_set 5 (ev_ixT (ev_var 0 rfl) ev_int rfl) ?_ c.nd
  refine sxs_if (t := decide (lead < 2)) ((tst_cm (cm_lt (ev_var 2 rfl) ev_int)).to (by rw [decide_eq_decide]; omega)) (fun h => ?_) (fun h => ?_)
  · have h : lead < 2 := by simpa using h
    refine sxs_set 6 ((ev_add (ev_add (ev_mul (.inr ⟨by omega, by omega⟩) (ev_var 3 rfl) (ev_var 5 rfl)) (ev_var 4 rfl)) (ev_var 2 rfl)).to (e := .int ((p.1 * fm.high + p.2 + lead : Nat) : Int)) (by congr 1)) ?_ c.nd
    refine sxs_ret (ev_tup (eva_cons ((ev_fdiv (by omega) (ev_var 6 rfl) (ev_var 5 rfl)).to (e := .int (((p.1 * fm.high + p.2 + lead) / fm.high : Nat) : Int)) (by congr 1)) (eva_cons ((ev_mod (by omega) (ev_var 6 rfl) (ev_var 5 rfl)).to (e := .int (((p.1 * fm.high + p.2 + lead) % fm.high : Nat) : Int)) (by congr 1)) eva_nil))) ?_
    show _ = _
    rw [behindBy, if_pos h]
    rfl
  · have h : ¬ lead < 2 := by simpa using h
    refine sxs_nil ?_
    refine sxs_if (t := decide (lead = 2 ∧ p.2 + 2 < fm.high)) (tst_and2 (tst_cm (cm_eq (ev_var 2 rfl) ev_int)) (fun _ => tst_cm (cm_lt (ev_add (ev_var 4 rfl) ev_int) (ev_var 5 rfl))) (by rw [Bool.decide_and]; congr 1 <;> rw [decide_eq_decide] <;> omega)) (fun h2 => ?_) (fun h2 => ?_)
    · have h2 := of_decide_eq_true h2
      refine sxs_ret (ev_tup (eva_cons (ev_var 3 rfl) (eva_cons ((ev_add (ev_var 4 rfl) ev_int).to (e := .int ((p.2 + 2 : Nat) : Int)) (by congr 1)) eva_nil))) ?_
      show _ = _
      rw [behindBy, if_neg h, if_pos h2]
      rfl
    · have h2 := of_decide_eq_false h2
      refine sxs_nil ?_
      refine sxs_if (t := decide (lead = 4 ∧ (fm.first + p.1) % 2 = 1)) (tst_and2 (tst_cm (cm_eq (ev_var 2 rfl) ev_int)) (fun _ => tst_cm (cm_eq (ev_mod (by decide) (ev_add (ev_ixT (ev_var 0 rfl) ev_int rfl) (ev_var 3 rfl)) ev_int) ev_int)) (by rw [Bool.decide_and]; congr 1 <;> rw [decide_eq_decide] <;> omega)) (fun h3 => ?_) (fun h3 => ?_)
      · have h3 := of_decide_eq_true h3
        refine sxs_ret (ev_tup (eva_cons ((ev_add (ev_var 3 rfl) ev_int).to (e := .int ((p.1 + 2 : Nat) : Int)) (by congr 1)) (eva_cons ev_int eva_nil))) ?_
        show _ = _
        rw [behindBy, if_neg h, if_neg h2, if_pos h3]
        rfl
      · have h3 := of_decide_eq_false h3
        refine sxs_nil ?_
        refine sxs_ret (ev_tup (eva_cons ((ev_add (ev_var 3 rfl) ev_int).to (e := .int ((p.1 + 1 : Nat) : Int)) (by congr 1)) (eva_cons ev_int eva_nil))) ?_
        show _ = _
        rw [behindBy, if_neg h, if_neg h2, if_neg h3]
        rfl
abbrev C_sooner (P : Program) (w : World) (K : PySem.W.Frag) (mg : Str → Option Value) (base : Heap) (C : Ec → Addr) := Callee P w K mg base 1 "_law_sooner" (spP K C 2 (fun i : Plc × Plc => [fz (plD i.1), fz (plD i.2)]) (fun _ => True) (fun i => is (.ok (fz (.bool (sooner i.1 i.2))))))
theorem ok_sooner (D : Df K mg "_law_sooner" s_law_sooner) : C_sooner P w K mg base C := by
  refine callee_of D sc_law_sooner (fun _ _ _ _ _ _ us hl => match us, hl with | [_, _], _ => rfl) (fun f cdv A outer s H E c i _ => ?_)
  obtain ⟨a, b⟩ := i
  show Sxs _ _ _ [some (fz (plD a)), some (fz (plD b))] _
  refine sxs_ret ((ev_or (ev_cm (cm_lt (ev_ixT (ev_var 0 rfl) ev_int rfl) (ev_ixT (ev_var 1 rfl) ev_int rfl))) fun h => (ev_bo1 (ev_and (ev_cm (cm_eq (ev_ixT (ev_var 0 rfl) ev_int rfl) (ev_ixT (ev_var 1 rfl) ev_int rfl))) fun h => (ev_bo1 (ev_cm (cm_lt (ev_ixT (ev_var 0 rfl) ev_int rfl) (ev_ixT (ev_var 1 rfl) ev_int rfl))))))).to (e := .bool (sooner a b)) (by
    congr 1
    rw [sooner, Bool.decide_or, Bool.decide_and]
    congr 1
    · rw [decide_eq_decide]; omega
    · congr 1 <;> rw [decide_eq_decide] <;> omega)) ?_
  rfl
end
end Tl

/-! The draws: the leads that are let. -/
namespace Tl
open PySem PySem.Spec PyProof.Rows L2 PV
def letB (f : Frm) (ps : List Plc) (k lead : Nat) : Bool := !decide (lead = 4 ∧ (f.first + (plAt ps k).1) % 2 = 0) && !(decide (0 < k) && sooner (plAt ps k) (behindBy f (plAt ps (k - 1)) lead))
section
variable {P : Program} {w : World} {K : PySem.W.Frag} {mg : Str → Option Value} {base : Heap} {C : Ec → Addr}
abbrev C_let (P : Program) (w : World) (K : PySem.W.Frag) (mg : Str → Option Value) (base : Heap) (C : Ec → Addr) := Callee P w K mg base 2 "_law_let" (spP K C 4 (fun i : Frm × List Plc × Nat × Nat => [fz (frD i.1), fz (.list [.list (i.2.1.map plD)]), fz (.int i.2.2.1), fz (.int i.2.2.2)]) (fun i => 0 < i.1.high ∧ i.1.high ≤ 1000 ∧ i.2.2.1 < i.2.1.length) (fun i => is (.ok (fz (.bool (letB i.1 i.2.1 i.2.2.1 i.2.2.2))))))
theorem ok_let (Bt : Blt mg) (G_sooner : C_sooner P w K mg base C) (G_behind_by : C_behind_by P w K mg base C) (D : Df K mg "_law_let" s_law_let) : C_let P w K mg base C := by
  refine callee_of D sc_law_let (fun _ _ _ _ _ _ us hl => match us, hl with | [_, _, _, _], _ => rfl) (fun f cdv A outer s H E c i hi => ?_)
  obtain ⟨fm, ps, k, lead⟩ := i
  obtain ⟨h0, h1, hk⟩ := hi
  simp only at h0 h1 hk
  show Sxs _ _ _ [some (fz (frD fm)), some (fz (.list [.list (ps.map plD)])), some (fz (.int k)), some (fz (.int lead)), none] _
  have hp := plAt_get hk
  refine sxs_forL (fun l : List Plc => PyData.list (l.map plD)) [ps] (fun _ : Unit => [some (fz (frD fm)), some (fz (.list [.list (ps.map plD)])), some (fz (.int k)), some (fz (.int lead)), none]) (fun _ ys => ys = [ps] ∨ (ys = [] ∧ letB fm ps k lead = true)) () c (iv_list (ev_var 1 rfl)) (tg_name 4 c.nd) (Wk.refl _) (.inl rfl) (fun _ y ys hR => ⟨⟨(fun h => nomatch h), rfl⟩, ?_⟩) (fun _ hR => ?_)
  · rcases hR with hR | ⟨hR, _⟩
    · obtain ⟨rfl, rfl⟩ : y = ps ∧ ys = [] := by simpa using hR
      show Sxs _ _ _ [some (fz (frD fm)), some (fz (.list [.list (y.map plD)])), some (fz (.int k)), some (fz (.int lead)), some (fz (.list (y.map plD)))] _
      have hl : letB fm y k lead = (!decide (lead = 4 ∧ (fm.first + (plAt y k).1) % 2 = 0) && !(decide (0 < k) && sooner (plAt y k) (behindBy fm (plAt y (k - 1)) lead))) := rfl
      refine sxs_if (t := decide (lead = 4 ∧ (fm.first + (plAt y k).1) % 2 = 0)) (tst_and2 (tst_cm (cm_eq (ev_var 3 rfl) ev_int)) (fun _ => tst_cm (cm_eq (ev_mod (by decide) (ev_add (ev_ixT (ev_var 0 rfl) ev_int rfl) (ev_ixT (ev_ixL (Bv.bw (Ev.bv (ev_var 4 rfl))) (ev_var 2 rfl) (atI_map plD hp)) ev_int rfl)) ev_int) ev_int)) (by rw [Bool.decide_and]; congr 1 <;> rw [decide_eq_decide] <;> omega)) (fun h => ?_) (fun h => ?_)
      · rw [h] at hl
        refine sxs_ret ev_bl ?_
        show _ = _
        rw [hl]
        rfl
      · rw [h] at hl
        refine sxs_nil ?_
        refine sxs_if (t := decide (0 < k) && sooner (plAt y k) (behindBy fm (plAt y (k - 1)) lead)) ?_ (fun h2 => ?_) (fun h2 => ?_)
        · by_cases hk0 : 0 < k
          · have hp1 := plAt_get (ps := y) (k := k - 1) (by omega)
            refine tst_and2 (tst_cm (cm_gt (ev_var 2 rfl) ev_int)) (fun _ => tst_val (ev_call c G_sooner (plAt y k, behindBy fm (plAt y (k - 1)) lead) trivial (fun _ h => h) (as_cons (Ev.s (ev_ixL (Bv.bw (Ev.bv (ev_var 4 rfl))) (ev_var 2 rfl) (atI_map plD hp))) (as_cons (Ev.s (ev_call c G_behind_by (fm, plAt y (k - 1), lead) ⟨h0, h1⟩ (fun _ h => h) (as_cons (Ev.s (ev_var 0 rfl)) (as_cons (Ev.s (ev_ixL (Bv.bw (Ev.bv (ev_var 4 rfl))) ((ev_sub (ev_var 2 rfl) ev_int).to (e := .int ((k - 1 : Nat) : Int)) (by congr 1; omega)) (atI_map plD hp1))) (as_cons (Ev.s (ev_var 3 rfl)) as_nil))))) as_nil)))) ?_
            congr 1
            rw [decide_eq_decide]; omega
          · refine tst_and2 (p := false) (q := false) ((tst_cm (cm_gt (ev_var 2 rfl) ev_int)).to (by rw [decide_eq_false_iff_not]; omega)) (fun h => nomatch h) ?_
            rw [decide_eq_false hk0]; rfl
        · rw [h2] at hl
          refine sxs_ret ev_bl ?_
          show _ = _
          rw [hl]
          rfl
        · rw [h2] at hl
          refine sxs_nil ?_
          exact sxs_nil ⟨_, Wk.of (wkl_some rfl (wkl_some rfl (wkl_some rfl (wkl_some rfl (wkl_none wkl_nil))))), (), rfl, .inr ⟨rfl, hl⟩⟩
    · cases hR
  · rcases hR with hR | ⟨_, hR⟩
    · cases hR
    · refine sxs_ret ev_bl ?_
      show _ = _
      rw [hR]
end
end Tl

/-! The pure-value layer: wide divisors. -/
namespace PV
open PySem PySem.Spec PyProof.Rows L2
section
variable {X : Cx} {W : Wc} {ρ : Env} {a b : Expr} {pos : Pos} {i j : Int}
theorem ev_fdivW (c : CDivW i j) (ha : Ev X W ρ a (.int i)) (hb : Ev X W ρ b (.int j)) : Ev X W ρ (.BinOp a .FloorDiv b pos) (.int (i / j)) :=
  ev_op op_fdivW ha hb fun x y F H Q s dx dy h => ⟨i, j, dq_int dx, dq_int dy, c, h _ F H (.refl s) (.int _)⟩
end
end PV

/-! The draws: the words of a book. -/
namespace Tl
open PySem PySem.Spec PyProof.Rows L2 PV
def choices (f : Frm) (ps : List Plc) (k : Nat) : List Nat := (List.range 5).filter (letB f ps k)
def apartB (ps : List Plc) (k : Nat) : Bool := decide (0 < k ∧ (plAt ps (k - 1)).1 ≠ (plAt ps k).1)
def wordOf (f : Frm) (ps : List Plc) (ns : List Nat) (k : Nat) (p : Part) : Wrd :=
  ⟨(choices f ps k).getD (ns.getD k 0 / 10 ^ 13 % (choices f ps k).length) 0, !apartB ps k && decide (ns.getD k 0 / 10 ^ 13 / 60 % 2 = 1), p.1, p.2⟩
def wordGo (f : Frm) (ps : List Plc) (ns : List Nat) : Nat → List Part → List Wrd
  | _, [] => []
  | k, p :: l => wordOf f ps ns k p :: wordGo f ps ns (k + 1) l
theorem filter_keep (q : Nat → Bool) : ∀ l : List Nat, (l.map fun n => if q n then some (natD n) else none).filterMap id = (l.filter q).map natD
  | [] => rfl
  | n :: l => by
    rw [List.map_cons, List.filterMap_cons]
    by_cases h : q n = true
    · simp [h, filter_keep q l]
    · simp [h, filter_keep q l]
structure okW (f : Frm) (parts : List Part) (ps : List Plc) (ns : List Nat) : Prop where
  high : 0 < f.high ∧ f.high ≤ 1000
  len : parts.length = ps.length
  nlen : ns.length = ps.length
  sz : ps.length ≤ 100
  some_ : ∀ k, k < ps.length → 0 < (choices f ps k).length
section
variable {P : Program} {w : World} {K : PySem.W.Frag} {mg : Str → Option Value} {base : Heap} {C : Ec → Addr}
abbrev C_words (P : Program) (w : World) (K : PySem.W.Frag) (mg : Str → Option Value) (base : Heap) (C : Ec → Addr) := Callee P w K mg base 3 "_law_words" (spP K C 4 (fun i : Frm × List Part × List Plc × List Nat => [fz (frD i.1), fz (.list (i.2.1.map partD)), fz (.list [.list (i.2.2.1.map plD)]), fz (.list (i.2.2.2.map natD))]) (fun i => okW i.1 i.2.1 i.2.2.1 i.2.2.2) (fun i => is (.ok (fz (.list ((wordGo i.1 i.2.2.1 i.2.2.2 0 i.2.1).map wdD))))))
theorem ok_words (Bt : Blt mg) (G_let : C_let P w K mg base C) (D : Df K mg "_law_words" s_law_words) : C_words P w K mg base C := by
  refine callee_of D sc_law_words (fun _ _ _ _ _ _ us hl => match us, hl with | [_, _, _, _], _ => rfl) (fun f cdv A outer s H E c i hi => ?_)
  obtain ⟨fm, parts, ps, ns⟩ := i
  have hi : okW fm parts ps ns := hi
  show Sxs _ _ _ [some (fz (frD fm)), some (fz (.list (parts.map partD))), some (fz (.list [.list (ps.map plD)])), some (fz (.list (ns.map natD))), none, none, none, none, none, none, none, none, none] _
  refine sxs_setF 4 (fr_lst eva_nil) ?_ c.nd
  refine sxs_forE partD parts (fun s : List Wrd => [some (fz (frD fm)), some (fz (.list (parts.map partD))), some (fz (.list [.list (ps.map plD)])), some (fz (.list (ns.map natD))), some (ow none (s.map wdD)), none, none, none, none, none, none, none, none])
    (fun k s ys => s ++ wordGo fm ps ns k ys = wordGo fm ps ns 0 parts ∧ s.length ≤ k) [] c (iv_enum Bt (ev_var 1 rfl)) (tg_tup c.calm (tgs_cons 5 c.nd (tgs_cons 6 c.nd tgs_nil))) rfl (Wk.refl _) ⟨rfl, Nat.le_refl _⟩ (fun k s p ys hx hR => ?_) (fun s hR => ?_)
  · obtain ⟨hR, hsl⟩ := hR
    have hk : k < ps.length := hi.len ▸ (List.getElem?_eq_some_iff.mp hx).1
    have hsz := hi.sz
    have hkn : ns[k]? = some (ns.getD k 0) := by
      rw [List.getD_eq_getElem?_getD, List.getElem?_eq_getElem (hi.nlen ▸ hk)]; rfl
    have hch := hi.some_ k hk
    show Sxs _ _ _ [some (fz (frD fm)), some (fz (.list (parts.map partD))), some (fz (.list [.list (ps.map plD)])), some (fz (.list (ns.map natD))), some (ow none (s.map wdD)), some (fz (.int k)), some (fz (partD p)), none, none, none, none, none, none] _
    refine sxs_setLc (ks := (List.range 5).map fun n => if letB fm ps k n then some (natD n) else none) 7 [("lead", 11)] c (iv_range1 Bt ev_int (by decide) (by decide)) (fun s H Cc cl fp => have cb := c.blk s H Cc cl fp; tg_name 11 cb.nd) (szl (by rw [nums_length]; decide)) (by rw [nums_length]; simp) (fun n d r hd hr => ?_) ?_
    · obtain ⟨hn, rfl⟩ := nums_of hd
      have hn : n < 5 := hn
      rw [List.getElem?_map, List.getElem?_range hn] at hr
      have hr : r = if letB fm ps k n then some (natD n) else none := (Option.some.inj hr).symm
      refine ⟨⟨(fun h => nomatch h), rfl⟩, letB fm ps k n, fun s H Cc cl fp => ?_, fun h => by rw [hr, h]; rfl, fun h => ⟨natD n, by rw [hr, h]; rfl, fun s H Cc cl fp => ev_var 11 rfl⟩⟩
      exact tst_val (ev_call (c.blk s H Cc cl fp) G_let (fm, ps, k, n) ⟨hi.high.1, hi.high.2, hk⟩ (fun _ h => h) (as_cons (Ev.s (ev_var 0 rfl)) (as_cons (Ev.s (ev_var 2 rfl)) (as_cons (Ev.s (ev_var 5 rfl)) (as_cons (Ev.s (ev_var 11 rfl)) as_nil)))))
    · rw [filter_keep]
      refine sxs_freeze 7 rfl ?_
      refine sxs_set 8 ((ev_fdivW ⟨by decide, by decide +kernel⟩ (ev_ixL (Bv.bw (Ev.bv (ev_var 3 rfl))) (ev_var 5 rfl) (atI_map natD hkn)) (ev_pow ⟨by decide, by decide, by decide⟩ ev_int ev_int)).to (e := .int ((ns.getD k 0 / 10 ^ 13 : Nat) : Int)) (by congr 1)) ?_ c.nd
      have hap : (if apartB ps k then [some (PyData.list (ps.map plD))] else [none]).filterMap id = if apartB ps k then [PyData.list (ps.map plD)] else [] := by split <;> rfl
      refine sxs_setLc (ks := if apartB ps k then [some (PyData.list (ps.map plD))] else [none]) 9 [("places", 12)] c (iv_list (ev_var 2 rfl)) (fun s H Cc cl fp => have cb := c.blk s H Cc cl fp; tg_name 12 cb.nd) (szl (by simp)) (by split <;> rfl) (fun j d r hd hr => ?_) ?_
      · have hj : j = 0 := by
          cases j with
          | zero => rfl
          | succ j => simp at hd
        subst hj
        obtain rfl := (Option.some.inj hd)
        have hr : r = if apartB ps k then some (PyData.list (ps.map plD)) else none := by
          split at hr
          · rename_i h; rw [if_pos h]; exact (Option.some.inj hr).symm
          · rename_i h; rw [if_neg h]; exact (Option.some.inj hr).symm
        refine ⟨⟨(fun h => nomatch h), rfl⟩, apartB ps k, fun s H Cc cl fp => ?_, fun h => by rw [hr, h]; rfl, fun h => ⟨_, by rw [hr, h]; rfl, fun s H Cc cl fp => ev_var 12 rfl⟩⟩
        by_cases h0 : 0 < k
        · have hp1 := plAt_get (ps := ps) (k := k - 1) (by omega)
          refine tst_and2 (tst_cm (cm_gt (ev_var 5 rfl) ev_int)) (fun _ => tst_cm (cm_ne (ev_ixT (ev_ixL (Bv.bw (Ev.bv (ev_var 12 rfl))) ((ev_sub (ev_var 5 rfl) ev_int).to (e := .int ((k - 1 : Nat) : Int)) (by congr 1; omega)) (atI_map plD hp1)) ev_int rfl) (ev_ixT (ev_ixL (Bv.bw (Ev.bv (ev_var 12 rfl))) (ev_var 5 rfl) (atI_map plD (plAt_get hk))) ev_int rfl))) ?_
          rw [apartB, Bool.decide_and, ← decide_not]
          congr 1 <;> rw [decide_eq_decide] <;> omega
        · refine tst_and2 (p := false) (q := false) ((tst_cm (cm_gt (ev_var 5 rfl) ev_int)).to (by rw [decide_eq_false_iff_not]; omega)) (fun h => nomatch h) ?_
          rw [apartB, decide_eq_false (fun h => h0 h.1)]; rfl
      · rw [hap]
        refine sxs_freeze 9 rfl ?_
        have hcl : cl 3 (.list (if apartB ps k then [PyData.list (ps.map plD)] else [])) = true := by
          split
          · have := pls_cl ps
            simp only [cl.eq_def 3, List.all_cons, List.all_nil, this, Bool.and_self]
          · rfl
        refine sxs_set 10 ((ev_and (ev_cm (cm_eqD c (Ev.rv (ev_var 9 rfl)) (Bv.rv (Fr.bv (fr_lst eva_nil))) (cl_shaped hcl) (cl_shaped nil_cl))) fun h => (ev_bo1 (ev_cm (cm_eq (ev_mod (by decide) (ev_fdiv (by decide) (ev_var 8 rfl) ev_int) ev_int) ev_int)))).to (e := .bool (!apartB ps k && decide (ns.getD k 0 / 10 ^ 13 / 60 % 2 = 1))) (by
          rw [eqv_nil]
          congr 1
          congr 1
          · cases apartB ps k <;> rfl
          · generalize ns.getD k 0 / 10 ^ 13 = z
            rw [decide_eq_decide]; omega)) ?_ c.nd
        have hix : (choices fm ps k)[ns.getD k 0 / 10 ^ 13 % (choices fm ps k).length]? = some ((choices fm ps k).getD (ns.getD k 0 / 10 ^ 13 % (choices fm ps k).length) 0) := by
          have g : ∀ (l : List Nat) (n : Nat), n < l.length → l[n]? = some (l.getD n 0) := fun l n h => by
            rw [List.getD_eq_getElem?_getD, List.getElem?_eq_getElem h]; rfl
          exact g _ _ (Nat.mod_lt _ hch)
        refine sxs_append 4 rfl ((ev_tup (eva_cons (ev_ixL (Bv.bw (Ev.bv (ev_var 7 rfl))) ((ev_mod (by rw [List.length_map]; exact Int.natCast_pos.mpr hch) (ev_var 8 rfl) (ev_len Bt (Bv.bw (Ev.bv (ev_var 7 rfl))))).to (e := .int ((ns.getD k 0 / 10 ^ 13 % (choices fm ps k).length : Nat) : Int)) (by rw [List.length_map]; congr 1)) (atI_map natD hix)) (eva_cons (ev_var 10 rfl) (eva_cons (ev_ixT (ev_var 6 rfl) ev_int rfl) (eva_cons (ev_ixT (ev_var 6 rfl) ev_int rfl) eva_nil))))).to (e := wdD (wordOf fm ps ns k p)) rfl) (szl' (by rw [List.length_map]; omega)) ?_
        refine sxs_nil ⟨_, Wk.of ?_, s ++ [wordOf fm ps ns k p], rfl, ?_, by rw [List.length_append, List.length_singleton]; omega⟩
        · rw [List.map_append]
          exact wkl_some rfl (wkl_some rfl (wkl_some rfl (wkl_some rfl (wkl_some rfl (wkl_none (wkl_none (wkl_none (wkl_none (wkl_none (wkl_none (wkl_none (wkl_none wkl_nil))))))))))))
        · rw [← hR, wordGo, List.append_assoc]
          rfl
  · refine sxs_freeze 4 rfl ?_
    refine sxs_ret (ev_var 4 rfl) ?_
    show _ = _
    have h := hR.1
    rw [wordGo, List.append_nil] at h
    rw [← h]
end
end Tl

/-! The draws: what holds of what is drawn. -/
namespace Tl
open PySem PySem.Spec PyProof.Rows L2 PV
def leP (a b : Plc) : Prop := a.1 < b.1 ∨ (a.1 = b.1 ∧ a.2 ≤ b.2)
theorem rGo_len (b room : Nat) : ∀ (ns : List Nat) (k : Nat) (s : Nat × Nat × Nat), (rGo b room k s ns).length = ns.length
  | [], _, _ => rfl
  | n :: ns, k, s => by rw [rGo, List.length_cons, List.length_cons, rGo_len b room ns]
theorem rQ_row {b room k n : Nat} {s : Nat × Nat × Nat} (hb : 0 < b) (hs : s.2.1 < b) : (rQ b room k n s).2 < b := by
  have m2 : ∀ x y : Nat, x % 2 * (y % b) < b := fun x y => by
    have h1 : y % b < b := Nat.mod_lt _ hb
    have h2 : x % 2 = 0 ∨ x % 2 = 1 := by omega
    rcases h2 with h2 | h2 <;> rw [h2] <;> omega
  unfold rQ
  split
  · exact m2 _ _
  · split
    · exact m2 _ _
    · split
      · exact Nat.mod_lt _ hb
      · exact hs
theorem rQ_page {b room k n : Nat} {s : Nat × Nat × Nat} (hb : 0 < b) (hs : s.2.1 < b) : (rQ b room k n s).1 ≤ s.1 + 2 := by
  unfold rQ
  split
  · show n / 8 % 3 ≤ _; omega
  · split
    · show s.1 + 1 + (if n % 8 = 7 ∧ s.1 ≤ k then 1 else 0) ≤ _
      split <;> omega
    · split
      · show s.1 + (s.2.1 + 1) / b ≤ _
        have : (s.2.1 + 1) / b ≤ 1 := Nat.div_le_of_le_mul (by omega)
        omega
      · show s.1 ≤ _; omega
theorem rQ_le {b room k n : Nat} {s : Nat × Nat × Nat} (hb : 0 < b) (hs : s.2.1 < b) (hk : k ≠ 0) : leP (s.1, s.2.1) (rQ b room k n s) := by
  unfold rQ
  rw [if_neg hk]
  split
  · left
    show s.1 < s.1 + 1 + (if n % 8 = 7 ∧ s.1 ≤ k then 1 else 0)
    omega
  · split
    · by_cases h : s.2.1 + 1 = b
      · left
        show s.1 < s.1 + (s.2.1 + 1) / b
        rw [h, Nat.div_self hb]; omega
      · right
        have h2 : s.2.1 + 1 < b := by omega
        refine ⟨?_, ?_⟩
        · show s.1 = s.1 + (s.2.1 + 1) / b
          rw [Nat.div_eq_of_lt h2]; rfl
        · show s.2.1 ≤ (s.2.1 + 1) % b
          rw [Nat.mod_eq_of_lt h2]; omega
    · exact .inr ⟨rfl, Nat.le_refl _⟩
theorem rGo_all (b room : Nat) (hb : 0 < b) : ∀ (ns : List Nat) (k : Nat) (s : Nat × Nat × Nat), s.2.1 < b → ∀ p ∈ rGo b room k s ns, p.2 < b ∧ p.1 ≤ s.1 + 2 * ns.length
  | [], _, _, _, p, h => by cases h
  | n :: ns, k, s, hs, p, h => by
    rw [rGo] at h
    have h1 := rQ_row (room := room) (k := k) (n := n) hb hs
    have h2 := rQ_page (room := room) (k := k) (n := n) hb hs
    rw [List.length_cons]
    rcases List.mem_cons.mp h with e | e
    · subst e
      exact ⟨h1, by show (rQ b room k n s).1 ≤ _; omega⟩
    · have h3 := rGo_all b room hb ns (k + 1) (rStep b room k n s) h1 p e
      refine ⟨h3.1, ?_⟩
      have h4 : p.1 ≤ (rQ b room k n s).1 + 2 * ns.length := h3.2
      omega
theorem rGo_rises (b room : Nat) (hb : 0 < b) : ∀ (ns : List Nat) (k : Nat) (s : Nat × Nat × Nat), s.2.1 < b → (k ≠ 0 → ∀ p, (rGo b room k s ns)[0]? = some p → leP (s.1, s.2.1) p) ∧ ∀ i p q, (rGo b room k s ns)[i]? = some p → (rGo b room k s ns)[i + 1]? = some q → leP p q
  | [], _, _, _ => ⟨(fun _ _ h => nomatch h), (fun _ _ _ h => nomatch h)⟩
  | n :: ns, k, s, hs => by
    have h1 := rQ_row (room := room) (k := k) (n := n) hb hs
    obtain ⟨a1, a2⟩ := rGo_rises b room hb ns (k + 1) (rStep b room k n s) h1
    refine ⟨fun hk p hp => ?_, fun i p q hp hq => ?_⟩
    · rw [rGo] at hp
      have hp : ((rStep b room k n s).1, (rStep b room k n s).2.1) = p := Option.some.inj hp
      rw [← hp]
      exact rQ_le hb hs hk
    · rw [rGo] at hp hq
      rw [List.getElem?_cons_succ] at hq
      cases i with
      | zero =>
        have hp : ((rStep b room k n s).1, (rStep b room k n s).2.1) = p := Option.some.inj hp
        rw [← hp]
        exact a1 (by omega) q hq
      | succ i =>
        rw [List.getElem?_cons_succ] at hp
        exact a2 i p q hp hq
end Tl

/-! The draws: what holds of parts, of the form. -/
namespace Tl
open PySem PySem.Spec PyProof.Rows L2 PV
theorem partGo_len (len : Nat) (big : Bool) : ∀ (ns : List Nat) (left : Nat), (partGo len big left ns).length = ns.length
  | [], _ => rfl
  | n :: ns, left => by rw [partGo, List.length_cons, List.length_cons, partGo_len len big ns]
theorem foot_len (m many len : Nat) (big : Bool) : (footOf m many len big).length = many := by simp [footOf]
theorem partGo_ok (len : Nat) (big : Bool) (hl : 0 < len) : ∀ (ns : List Nat) (left : Nat), (∀ p ∈ partGo len big left ns, okPart len p) ∧ ((partGo len big left ns).map fun p => p.2.length).sum ≤ left
  | [], left => ⟨(fun _ h => nomatch h), Nat.zero_le _⟩
  | n :: ns, left => by
    obtain ⟨a, b⟩ := partGo_ok len big hl ns (left - min left (footMany (n / 82944 % 8)))
    have hfm := footMany_le (n / 82944 % 8)
    have hfl : (partOf n left len big).2.length = min left (footMany (n / 82944 % 8)) := foot_len _ _ _ _
    refine ⟨fun p hp => ?_, ?_⟩
    · rw [partGo] at hp
      rcases List.mem_cons.mp hp with e | e
      · subst e
        refine ⟨some_ok hl, by rw [hfl]; omega, fun s hs => ?_⟩
        obtain ⟨k, _, rfl⟩ := List.mem_map.mp hs
        exact some_ok hl
      · exact a p e
    · rw [partGo, List.map_cons, List.sum_cons, hfl]
      omega
end Tl

/-! The draws: a book and its laying. -/
namespace Tl
open PySem PySem.Spec PyProof.Rows L2 PV
def firstN (ns : List Int) : Nat := (first (cellAt ns 1)).toNat
def bookNo (ns : List Int) : Nat := mixN (cellAt ns 0 + 7)
def baseN (ns : List Int) : Nat := 1 + bookNo ns % 6
def roomN (ns : List Int) : Nat := if 10 ^ 15 ≤ firstN ns then 3 else 10
def layN (ns : List Int) (most : Nat) : List Plc := rising (numbers ns most) (baseN ns) (roomN ns)
def partsN (ns : List Int) (most : Nat) : List Part := partsOf (numbers ns most) (decide (roomN ns = 3))
def formN (ns : List Int) (most : Nat) : Frm := fitting (partsN ns most) (layN ns most) (baseN ns) (firstN ns) (bookNo ns / 6)
def wordsN (ns : List Int) (most : Nat) : List Wrd := wordGo (formN ns most) (layN ns most) (numbers ns most) 0 (partsN ns most)
theorem nines_le : ∀ n : Nat, n < 61 → nines n ≤ 10 ^ 61 := by
  intro n hn
  have h : ∀ n : Fin 61, decide (nines n.val ≤ 10 ^ 61) = true := by decide +kernel
  exact of_decide_eq_true (h ⟨n, hn⟩)
theorem first_ok (c : Int) : 0 ≤ first c ∧ first c ≤ 10 ^ 61 := by
  have hb : (10 : Int) ^ 61 = 10 * 10 ^ 60 := by decide +kernel
  unfold first
  split
  · omega
  · split
    · have h := nines_le (c / 4 % 61).toNat (by omega)
      omega
    · split <;> omega
end Tl

/-! The draws: the drawn book is in order. -/
namespace Tl
open PySem PySem.Spec PyProof.Rows L2 PV
theorem base_ok (ns : List Int) : 1 ≤ baseN ns ∧ baseN ns ≤ 6 := by unfold baseN; omega
theorem lay_len (ns : List Int) (most : Nat) : (layN ns most).length = (numbers ns most).length := rGo_len _ _ _ _ _
theorem parts_len (ns : List Int) (most : Nat) : (partsN ns most).length = (numbers ns most).length := partGo_len _ _ _ _
theorem plAt_mem {ps : List Plc} {k : Nat} : plAt ps k ∈ ps ∨ plAt ps k = (0, 0) := by
  by_cases h : k < ps.length
  · exact .inl (List.mem_of_getElem? (plAt_get h))
  · right
    unfold plAt
    rw [List.getD_eq_getElem?_getD, List.getElem?_eq_none (Nat.le_of_not_lt h)]
    rfl
theorem lay_at {ns : List Int} {most : Nat} (hm : most ≤ 40) (k : Nat) : (plAt (layN ns most) k).2 < baseN ns ∧ (plAt (layN ns most) k).1 ≤ 100 := by
  have hb := base_ok ns
  have hn := numbers_len ns most
  rcases plAt_mem (ps := layN ns most) (k := k) with h | h
  · have := rGo_all (baseN ns) (roomN ns) (by omega) (numbers ns most) 0 (0, 0, 0) (by show 0 < _; omega) _ h
    refine ⟨this.1, ?_⟩
    have h2 : (plAt (layN ns most) k).1 ≤ 0 + 2 * (numbers ns most).length := this.2
    omega
  · rw [h]
    exact ⟨by show 0 < _; omega, by decide⟩
theorem lay_pls {ns : List Int} {most : Nat} (hm : most ≤ 40) : okPls (layN ns most) := by
  have hn := numbers_len ns most
  have hb := base_ok ns
  refine ⟨by rw [lay_len]; omega, fun k => ?_⟩
  have := lay_at (ns := ns) hm k
  omega
theorem lay_rises {ns : List Int} {most k : Nat} (h0 : 0 < k) (hk : k < (layN ns most).length) : leP (plAt (layN ns most) (k - 1)) (plAt (layN ns most) k) := by
  have hb := base_ok ns
  have h := (rGo_rises (baseN ns) (roomN ns) (by omega) (numbers ns most) 0 (0, 0, 0) (by show 0 < _; omega)).2 (k - 1) (plAt (layN ns most) (k - 1)) (plAt (layN ns most) k)
  have e : k - 1 + 1 = k := by omega
  rw [e] at h
  exact h (plAt_get (ps := layN ns most) (k := k - 1) (by omega)) (plAt_get (ps := layN ns most) hk)
theorem draw_ok {ns : List Int} {most : Nat} (hm : most ≤ 40) : okDraw (partsN ns most) (layN ns most) (baseN ns) (firstN ns) := by
  have hb := base_ok ns
  have hf := first_ok (cellAt ns 1)
  refine ⟨lay_pls hm, (parts_len ns most).trans (lay_len ns most).symm, fun p hp => ?_, hb.2, ?_, ?_⟩
  · rw [lay_len]
    have hpos : 0 < (numbers ns most).length := by
      have : 0 < (partsN ns most).length := List.length_pos_of_mem hp
      rw [parts_len] at this; exact this
    exact (partGo_ok _ _ hpos (numbers ns most) 40).1 p hp
  · have h2 : (firstN ns : Int) ≤ 10 ^ 61 := by unfold firstN; omega
    have h3 : ((10 ^ 61 : Nat) : Int) = (10 : Int) ^ 61 := by decide +kernel
    rw [← h3] at h2
    exact Nat.le_trans (Int.ofNat_le.mp h2) (by decide +kernel)
  · by_cases h : (numbers ns most).length = 0
    · have e : partsN ns most = [] := List.length_eq_zero_iff.mp (by rw [parts_len]; exact h)
      rw [e]; decide
    · have := (partGo_ok (numbers ns most).length (decide (roomN ns = 3)) (by omega) (numbers ns most) 40).2
      exact Nat.le_trans this (by decide)
theorem form_ok {ns : List Int} {most : Nat} (hm : most ≤ 40) : okFrm (formN ns most) ∧ baseN ns ≤ (formN ns most).high ∧ (formN ns most).high ≤ 1000 := by
  have hd := draw_ok (ns := ns) hm
  have hw := wide_le hd (bookNo ns / 6)
  have hfo := hd.foot
  have hb := base_ok ns
  have hmo : mostOf (partsN ns most) (baseN ns) ≤ 906 := by unfold mostOf; omega
  have hmo2 : baseN ns ≤ mostOf (partsN ns most) (baseN ns) := by unfold mostOf; omega
  have hh : baseN ns ≤ (formN ns most).high ∧ (formN ns most).high ≤ 906 := by
    show baseN ns ≤ highOf _ _ _ _ _ ∧ highOf _ _ _ _ _ ≤ 906
    unfold highOf
    omega
  have hlast : lastOf (layN ns most) ≤ 1000 := by
    unfold lastOf
    cases e : (layN ns most).getLast? with
    | none => exact Nat.zero_le _
    | some p =>
      obtain ⟨k, hk⟩ := List.mem_iff_getElem?.mp (List.mem_of_getLast? e)
      have h1 := plAt_get (List.getElem?_eq_some_iff.mp hk).1
      rw [hk] at h1
      have h2 := (lay_at (ns := ns) hm k).2
      rw [← Option.some.inj h1] at h2
      show p.1 ≤ 1000
      omega
  refine ⟨⟨by show wideOf _ _ _ _ _ ≤ _; omega, by omega, hd.first, ?_⟩, hh.1, by omega⟩
  show lastOf (layN ns most) + 1 + bookNo ns / 6 / 24 % 4 ≤ 1000000
  omega
theorem words_ok {ns : List Int} {most : Nat} (hm : most ≤ 40) : okW (formN ns most) (partsN ns most) (layN ns most) (numbers ns most) := by
  have hf := form_ok (ns := ns) hm
  have hb := base_ok ns
  have hn := numbers_len ns most
  refine ⟨⟨by omega, hf.2.2⟩, (parts_len ns most).trans (lay_len ns most).symm, (lay_len ns most).symm, by rw [lay_len]; omega, fun k hk => ?_⟩
  have h0 : letB (formN ns most) (layN ns most) k 0 = true := by
    unfold letB
    by_cases hk0 : 0 < k
    · have hr := (lay_at (ns := ns) hm (k - 1)).1
      have hbeh : behindBy (formN ns most) (plAt (layN ns most) (k - 1)) 0 = plAt (layN ns most) (k - 1) := by
        have h1 : (plAt (layN ns most) (k - 1)).2 < (formN ns most).high := by omega
        unfold behindBy
        rw [if_pos (by decide), Nat.add_zero]
        refine Prod.ext ?_ ?_
        · show ((plAt (layN ns most) (k - 1)).1 * (formN ns most).high + (plAt (layN ns most) (k - 1)).2) / (formN ns most).high = _
          rw [Nat.mul_comm, Nat.mul_add_div (by omega), Nat.div_eq_of_lt h1, Nat.add_zero]
        · show ((plAt (layN ns most) (k - 1)).1 * (formN ns most).high + (plAt (layN ns most) (k - 1)).2) % (formN ns most).high = _
          rw [Nat.mul_comm, Nat.mul_add_mod, Nat.mod_eq_of_lt h1]
      have hns : sooner (plAt (layN ns most) k) (plAt (layN ns most) (k - 1)) = false := by
        have := lay_rises (ns := ns) (most := most) hk0 hk
        unfold sooner
        rw [decide_eq_false_iff_not]
        rcases this with h | ⟨h, h'⟩ <;> omega
      rw [hbeh, hns]
      simp
    · simp [hk0]
  refine List.length_pos_of_mem (a := 0) ?_
  exact List.mem_filter.mpr ⟨by simp, h0⟩
end Tl

/-! The pure-value layer: trees without the places of their parts. -/
namespace PV
open PySem PySem.Spec PyProof.Rows L2
mutual
def T.bare : T → T
  | .fz d => .fz d
  | .lst _ ts => .lst none (T.bares ts)
  | .tup _ ts => .tup none (T.bares ts)
def T.bares : List T → List T
  | [] => []
  | t :: ts => t.bare :: T.bares ts
end
section
variable {K : PySem.W.Frag} {F : Hp}
mutual
theorem OT.bare : ∀ (t : T) (v : V) (m : Mini), OT K F v t m → OT K F v t.bare m
  | .fz d, _, _, h => by rw [T.bare]; exact h
  | .lst l ts, _, _, h => by
    cases h with
    | lst h1 h2 h3 => rw [T.bare]; exact .lst (fun _ z => nomatch z) (OTs.bare ts _ _ h2) h3
  | .tup l ts, _, _, h => by
    cases h with
    | tup h1 h2 h3 => rw [T.bare]; exact .tup (fun _ z => nomatch z) (OTs.bare ts _ _ h2) h3
theorem OTs.bare : ∀ (ts : List T) (vs : List V) (m : Mini), OTs K F vs ts m → OTs K F vs (T.bares ts) m
  | [], _, _, h => by rw [T.bares]; exact h
  | t :: ts, _, _, h => by
    cases h with
    | cons h1 h2 h3 => rw [T.bares]; exact .cons (OT.bare t _ _ h1) (OTs.bare ts _ _ h2) h3
end
end
theorem bares_map : ∀ ts : List T, T.bares ts = ts.map T.bare
  | [] => by rw [T.bares]; rfl
  | t :: ts => by rw [T.bares, bares_map ts]; rfl
theorem bare_fz (d : PyData) : (T.fz d).bare = .fz d := by rw [T.bare]
theorem bare_lst (l : Option Addr) (ts : List T) : (T.lst l ts).bare = .lst none (ts.map T.bare) := by rw [T.bare, bares_map]
theorem bare_tup (l : Option Addr) (ts : List T) : (T.tup l ts).bare = .tup none (ts.map T.bare) := by rw [T.bare, bares_map]
theorem bare_fzs (ds : List PyData) : (ds.map T.fz).map T.bare = ds.map T.fz := by
  rw [List.map_map]
  exact List.map_congr_left fun d _ => bare_fz d
theorem at_lst {l : Option Addr} {ts : List T} {k : Nat} {u : T} {π : List Nat} (h : ts[k]? = some u) : (T.lst l ts).at? (k :: π) = u.at? π := by rw [T.at?, h]
theorem at_tup {l : Option Addr} {ts : List T} {k : Nat} {u : T} {π : List Nat} (h : ts[k]? = some u) : (T.tup l ts).at? (k :: π) = u.at? π := by rw [T.at?, h]
theorem put_lst {l : Option Addr} {ts : List T} {k : Nat} {t u : T} {π : List Nat} (h : ts[k]? = some t) : (T.lst l ts).put (k :: π) u = .lst l (ts.set k (t.put π u)) := by rw [T.put, h]
theorem put_tup {l : Option Addr} {ts : List T} {k : Nat} {t u : T} {π : List Nat} (h : ts[k]? = some t) : (T.tup l ts).put (k :: π) u = .tup l (ts.set k (t.put π u)) := by rw [T.put, h]
theorem range_set {α : Type} {n : Nat} {F G : Nat → α} {i : Nat} {y : α} (h1 : G i = y) (h2 : ∀ j, j ≠ i → G j = F j) : ((List.range n).map F).set i y = (List.range n).map G := by
  apply List.ext_getElem (by simp)
  intro j h h'
  simp only [List.getElem_set, List.getElem_map, List.getElem_range]
  split
  · rename_i e; subst e; exact h1.symm
  · rename_i e; exact (h2 j (fun z => e z.symm)).symm
section
variable {X : Cx} {W : Wc} {ρ : Env} {Φ : Out → Prop}
/-- where the parts stand is forgotten -/
theorem sxs_bare {sts : List Stmt} (j : Nat) {t u : T} (hj : ρ[j]? = some (some (tr t))) (e : t.bare = u) (h : Sxs X W sts (ρ.set j (some (tr u))) Φ) : Sxs X W sts ρ Φ := fun pins s σ F H M B F0 D I ok q => by
  subst e
  obtain ⟨v, hσ, hS⟩ := ok.ok.at_ j _ hj
  exact h pins s σ F H M B F0 D I (ok.reslot hj hσ (OT.bare _ _ _ hS)) q
/-- as sxs_alias, sxs_setItemN, .. with what the tree is then -/
theorem sxs_aliasE {rest : List Stmt} {e : Expr} {pos : Pos} {π : List Nat} {t : T} {l : Option Addr} {ts : List T} (t' : Addr → T) (i j : Nat) {x : Str} {pos' : Pos} (hij : i ≠ j) (hj : ρ[j]? = some (some (tr t))) (hn : Nd X W ρ e j π) (hπ : t.at? π = some (.lst l ts)) (ht : ∀ q, t.put π (.lst (some q) ts) = t' q) (k : ∀ q : Addr, Sxs X W rest ((ρ.set j (some (tr (t' q)))).set i (some (adr q))) Φ) (hN : X.N.Nodup)
    (hi : X.N[i]? = some x := by rfl) (hx : Loc X.env.scope x := by first | exact Or.inl rfl | exact Or.inr rfl) (hs : swapsWith e (some (.Name x pos')) pos.line X.env = pure false := by rfl)
    (hf : X.fn x = true ∨ X.env.scope.names.lookup x = some .local := by first | exact .inl rfl | exact .inr rfl) : Sxs X W (.Assign [.Name x pos'] e pos :: rest) ρ Φ :=
  sxs_alias i j hij hj hn hπ (fun q => by rw [ht q]; exact k q) hN hi hx hs hf
theorem sxs_setItemE {rest : List Stmt} {e b d : Expr} {pos : Pos} {π : List Nat} {t : T} {l : Option Addr} {ts : List T} (t' : T) (j : Nat) {pb : Pos} {u : T} {i : Int} {n : Nat} (hj : ρ[j]? = some (some (tr t))) (hn : Nd X W ρ e j π) (hπ : t.at? π = some (.lst l ts)) (hd : FrT X W ρ d u) (hb : Ev X W ρ b (.int i)) (hi : ixN ts.length i = some n) (ht : t.put π (.lst l (ts.set n u)) = t') (k : Sxs X W rest (ρ.set j (some (tr t'))) Φ)
    (hp : ∀ t u w, PE X e t → PE X d u → PE X b w → PS X (.Assign [.Subscript e b pb] d pos) (tAsg u (gSub t w rSetL)) := by exact fun t u w h h' h'' => ps_asg h' (pg_sub h h'' set_list)) :
    Sxs X W (.Assign [.Subscript e b pb] d pos :: rest) ρ Φ := sxs_setItemN j hj hn hπ hd hb hi (by rw [ht]; exact k) hp
theorem sxs_appendE {rest : List Stmt} {e d : Expr} {pos p : Pos} {π : List Nat} {t : T} {l : Option Addr} {ts : List T} (t' : T) (j : Nat) {pa : Pos} {u : T} (hj : ρ[j]? = some (some (tr t))) (hn : Nd X W ρ e j π) (hπ : t.at? π = some (.lst l ts)) (hd : FrT X W ρ d u) (c : ts.length < sizeLine) (ht : t.put π (.lst l (ts ++ [u])) = t') (k : Sxs X W rest (ρ.set j (some (tr t'))) Φ)
    (hp : ∀ t u, PE X e t → PE X d u → PE X (.Call (.Attribute e "append" pa) [d] [] p) (tBM X.K "list" rAppend t (tCons u tNil)) := by exact fun t u h h' => pe_bm PySem.F.plainAttrs_list PySem.F.slot_list_append PySem.F.type_list_append mt_append h (pa_cons h' pa_nil))
    (hs : swapsWith (.Call (.Attribute e "append" pa) [d] [] p) none pos.line X.env = pure false := by rfl) : Sxs X W (.Expr (.Call (.Attribute e "append" pa) [d] [] p) pos :: rest) ρ Φ := sxs_appendN j hj hn hπ hd c (by rw [ht]; exact k) hp hs
theorem sxs_extendE {rest : List Stmt} {e d : Expr} {pos p : Pos} {π : List Nat} {t : T} {l : Option Addr} {ts : List T} (t' : T) (j : Nat) {pa : Pos} {ds : List PyData} (hj : ρ[j]? = some (some (tr t))) (hn : Nd X W ρ e j π) (hπ : t.at? π = some (.lst l ts)) (hd : Bv X W ρ d ds) (c : ts.length + ds.length ≤ sizeLine) (ht : t.put π (.lst l (ts ++ ds.map T.fz)) = t') (k : Sxs X W rest (ρ.set j (some (tr t'))) Φ)
    (hp : ∀ t u, PE X e t → PE X d u → PE X (.Call (.Attribute e "extend" pa) [d] [] p) (tBM X.K "list" rExtendR t (tCons u tNil)) := by exact fun t u h h' => pe_bm PySem.F.plainAttrs_list PySem.F.slot_list_extend PySem.F.type_list_extend mt_extendR h (pa_cons h' pa_nil))
    (hs : swapsWith (.Call (.Attribute e "extend" pa) [d] [] p) none pos.line X.env = pure false := by rfl) : Sxs X W (.Expr (.Call (.Attribute e "extend" pa) [d] [] p) pos :: rest) ρ Φ := sxs_extendN j hj hn hπ hd c (by rw [ht]; exact k) hp hs
end
end PV

/-! The draws: a book and its laying, walked. -/
namespace Tl
open PySem PySem.Spec PyProof.Rows L2 PV
def drawD (ns : List Int) (most : Nat) : PyData := .tuple [bkD (formN ns most, wordsN ns most), .list [.list ((layN ns most).map plD)]]
theorem first_cast (ns : List Int) : first (cellAt ns 1) = (firstN ns : Int) := by have := first_ok (cellAt ns 1); unfold firstN; omega
section
variable {P : Program} {w : World} {K : PySem.W.Frag} {mg : Str → Option Value} {base : Heap} {C : Ec → Addr}
abbrev C_drawn (P : Program) (w : World) (K : PySem.W.Frag) (mg : Str → Option Value) (base : Heap) (C : Ec → Addr) := Callee P w K mg base 5 "_law_drawn" (spP K C 3 (fun i : List Int × Nat => [kn (i.1.map .int), fz (.int i.2), fz (.int 1)]) (fun i => i.2 ≤ 40) (fun i => is (.ok (fz (drawD i.1 i.2)))))
theorem ok_drawn (G_numbers : C_numbers P w K mg base C) (G_first : C_first P w K mg base C) (G_cell_at : C_cell_at P w K mg base C) (G_mixed : C_mixed P w K mg base C) (G_rising : C_rising P w K mg base C) (G_parts : C_parts P w K mg base C) (G_fitting : C_fitting P w K mg base C) (G_words : C_words P w K mg base C) (D : Df K mg "_law_drawn" s_law_drawn) : C_drawn P w K mg base C := by
  refine callee_of D sc_law_drawn (fun _ _ _ _ _ _ us hl => match us, hl with | [_, _, _], _ => rfl) (fun f cdv A outer s H E c i hi => ?_)
  obtain ⟨ns, most⟩ := i
  have hm : most ≤ 40 := hi
  show Sxs _ _ _ [some (kn (ns.map .int)), some (fz (.int most)), some (fz (.int 1)), none, none, none, none, none, none, none, none, none] _
  have hb := base_ok ns
  have hn := numbers_len ns most
  have hfc := first_cast ns
  refine sxs_set 3 (ev_call c G_numbers (ns, most) (by show most ≤ 100; omega) (fun _ h => h) (as_cons (evs_kn 0 rfl) (as_cons (Ev.s (ev_var 1 rfl)) as_nil))) ?_ c.nd
  refine sxs_set 4 ((ev_call c G_first (cellAt ns 1) trivial (fun _ h => h) (as_cons (Ev.s (ev_call c G_cell_at (ns, 1) trivial (fun _ h => h) (as_cons (evs_kn 0 rfl) (as_cons (Ev.s ev_int) as_nil)))) as_nil)).to (e := .int (firstN ns)) (by rw [hfc])) ?_ c.nd
  refine sxs_set 5 ((ev_call c G_mixed (cellAt ns 0 + 7) trivial (fun _ h => h) (as_cons (Ev.s (ev_add (ev_call c G_cell_at (ns, 0) trivial (fun _ h => h) (as_cons (evs_kn 0 rfl) (as_cons (Ev.s ev_int) as_nil))) ev_int)) as_nil)).to (e := .int (bookNo ns)) (by rw [mix_eq]; rfl)) ?_ c.nd
  refine sxs_set 6 ((ev_add ev_int (ev_mod (by decide) (ev_var 5 rfl) ev_int)).to (e := .int (baseN ns)) (by unfold baseN; congr 1)) ?_ c.nd
  refine sxs_set 7 (ev_if (d := .int (roomN ns)) (p := decide (10 ^ 15 ≤ firstN ns)) ((tst_cm (cm_ge (ev_var 4 rfl) (ev_pow ⟨by decide, by decide, by decide⟩ ev_int ev_int))).to (by rw [decide_eq_decide]; show (10 : Int) ^ 15 ≤ _ ↔ _; omega)) (fun h => ev_int.to (by unfold roomN; rw [if_pos (of_decide_eq_true h)]; rfl)) (fun h => ev_int.to (by unfold roomN; rw [if_neg (of_decide_eq_false h)]; rfl))) ?_ c.nd
  refine sxs_setF 8 (fr_lst (eva_cons (ev_call c G_rising (numbers ns most, baseN ns, roomN ns) ⟨by show (numbers ns most).length ≤ 1000; omega, hb.1, hb.2⟩ (fun _ h => h) (as_cons (Ev.s (ev_var 3 rfl)) (as_cons (Ev.s (ev_var 6 rfl)) (as_cons (Ev.s (ev_var 7 rfl)) as_nil)))) eva_nil)) ?_ c.nd
  refine sxs_if (tst_cm (cm_eq (ev_var 2 rfl) ev_int)) (fun h => absurd h (by decide)) (fun h => ?_)
  refine sxs_nil ?_
  refine sxs_freeze 8 rfl ?_
  have hroom : decide ((roomN ns : Int) = 3) = decide (roomN ns = 3) := by rw [decide_eq_decide]; omega
  refine sxs_set 9 (ev_call c G_parts (numbers ns most, decide (roomN ns = 3)) (by show (numbers ns most).length ≤ 1000; omega) (fun _ h => h) (as_cons (Ev.s (ev_var 3 rfl)) (as_cons (Ev.s ((ev_cm (cm_eq (ev_var 7 rfl) ev_int)).to (by rw [hroom]))) as_nil))) ?_ c.nd
  refine sxs_set 10 (ev_call c G_fitting ⟨partsN ns most, layN ns most, baseN ns, firstN ns, bookNo ns / 6⟩ (draw_ok hm) (fun _ h => h) (as_cons (Ev.s (ev_var 9 rfl)) (as_cons (Ev.s (ev_var 8 rfl)) (as_cons (Ev.s (ev_var 6 rfl)) (as_cons (Ev.s (ev_var 4 rfl)) (as_cons (Ev.s ((ev_fdiv (by decide) (ev_var 5 rfl) ev_int).to (e := .int ((bookNo ns / 6 : Nat) : Int)) (by congr 1))) as_nil)))))) ?_ c.nd
  refine sxs_ret (ev_tup (eva_cons (ev_tup (eva_cons (ev_var 10 rfl) (eva_cons (ev_call c G_words (formN ns most, partsN ns most, layN ns most, numbers ns most) (words_ok hm) (fun _ h => h) (as_cons (Ev.s (ev_var 10 rfl)) (as_cons (Ev.s (ev_var 9 rfl)) (as_cons (Ev.s (ev_var 8 rfl)) (as_cons (Ev.s (ev_var 3 rfl)) as_nil))))) eva_nil))) (eva_cons (ev_var 8 rfl) eva_nil))) ?_
  rfl
end
end Tl

/-! What pages are. -/
namespace Tl
open PySem PySem.Spec PyProof.Rows L2 PV
section
variable {P : Program} {w : World} {K : PySem.W.Frag} {mg : Str → Option Value} {base : Heap} {C : Ec → Addr}
abbrev InIs := List Page × Nat × Nat
abbrev C_is_pages (P : Program) (w : World) (K : PySem.W.Frag) (mg : Str → Option Value) (base : Heap) (C : Ec → Addr) := Callee P w K mg base 1 "_law_is_pages" (spP K C 3 (fun i : InIs => [fz (.list (i.1.map pgD)), fz (.int i.2.1), fz (.int i.2.2)]) (fun i => i.1.length = i.2.1 ∧ (∀ p ∈ i.1, p.2.length = i.2.2) ∧ i.2.1 ≤ 10000 ∧ i.2.2 ≤ 10000) (fun i => is (.ok (fz (.bool true)))))
theorem ok_is_pages (Bt : Blt mg) (D : Df K mg "_law_is_pages" s_law_is_pages) : C_is_pages P w K mg base C := by
  refine callee_of D sc_law_is_pages (fun _ _ _ _ _ _ us hl => match us, hl with | [_, _, _], _ => rfl) (fun f cdv A outer s H E c i hi => ?_)
  obtain ⟨ps, many, high⟩ := i
  obtain ⟨hl, hp, hm, hh⟩ := hi
  simp only at hl hp hm hh
  show Sxs _ _ _ [some (fz (.list (ps.map pgD))), some (fz (.int many)), some (fz (.int high)), none, none] _
  refine sxs_if (t := false) (tst_or2 (tst_not (tst_val (ev_isi (T0 := "list") (r := true) Bt (ev_var 0 rfl) (by decide +kernel) Bt.list (by show kitB "list" "list" = _; decide +kernel)))) (fun _ => tst_cm (cm_ne (ev_len Bt (Bv.bw (Ev.bv (ev_var 0 rfl)))) (ev_var 1 rfl))) (by simp [hl])) (fun h => nomatch h) (fun h => ?_)
  refine sxs_nil ?_
  refine sxs_forL pgD ps (fun _ : Unit => [some (fz (.list (ps.map pgD))), some (fz (.int many)), some (fz (.int high)), none, none]) (fun _ ys => ∀ p ∈ ys, p.2.length = high) () c (iv_list (ev_var 0 rfl)) (tg_name 3 c.nd) (Wk.refl _) hp (fun _ p ys hR => ⟨⟨(fun h => nomatch h), rfl⟩, ?_⟩) (fun _ hR => ?_)
  · have hp1 := hR p List.mem_cons_self
    have hys := fun p' h' => hR p' (List.mem_cons_of_mem _ h')
    show Sxs _ _ _ [some (fz (.list (ps.map pgD))), some (fz (.int many)), some (fz (.int high)), some (fz (pgD p)), none] _
    refine sxs_if (t := false) ((Tws.tst (tw_or (tst_not (tst_val (ev_isi (T0 := "tuple") (r := true) Bt (ev_var 3 rfl) (by decide +kernel) Bt.tuple (by show kitB "tuple" "tuple" = _; decide +kernel)))) fun h => (tw_or (tst_cm (cm_ne (ev_lenT Bt (ev_var 3 rfl)) ev_int)) fun h => (tw_or (tst_not (tst_val (ev_isi (T0 := "list") (r := true) Bt (ev_ixT (ev_var 3 rfl) ev_int rfl) (by decide +kernel) Bt.list (by show kitB "list" "list" = _; decide +kernel)))) fun h => (tw_or1 (tst_cm (cm_ne (ev_len Bt (Bv.bw (Ev.bv (ev_ixT (ev_var 3 rfl) ev_int rfl)))) (ev_var 2 rfl)))))))).to (by simp [hp1])) (fun h => nomatch h) (fun h => ?_)
    refine sxs_nil ?_
    refine sxs_if (t := false) (tst_or2 (tst_not (tst_val (ev_isi (T0 := "int") (r := true) Bt (ev_ixT (ev_var 3 rfl) ev_int rfl) (by decide +kernel) Bt.int (by show kitB "int" "int" = _; decide +kernel)))) (fun _ => tst_val (ev_isi (T0 := "bool") (r := false) Bt (ev_ixT (ev_var 3 rfl) ev_int rfl) (by decide +kernel) Bt.bool (by show kitB "int" "bool" = _; decide +kernel))) (by rfl)) (fun h => nomatch h) (fun h => ?_)
    refine sxs_nil ?_
    refine sxs_if (t := false) ((tst_not (tst_val (ev_all (ns := p.2.map fun _ => true) c Bt (Bv.bw (Fr.bv (Fr.to (fr_lc (ks := ((p.2.map fun _ => true).map PyData.bool).map some) [("row", 4)] c (iv_list (ev_ixT (ev_var 3 rfl) ev_int rfl)) (fun s H Cc cl fp => have cb := c.blk s H Cc cl fp; tg_name 4 cb.nd) (szl (by rw [List.length_map]; omega)) (by simp) (fun i d r hd hr => ?_)) (keep_all _))))))).to (by simp)) (fun h => nomatch h) (fun h => ?_)
    · rw [List.getElem?_map] at hd
      obtain ⟨x, hx, rfl⟩ := Option.map_eq_some_iff.mp hd
      rw [List.getElem?_map, List.getElem?_map, List.getElem?_map, hx] at hr
      obtain rfl := (Option.some.inj hr).symm
      refine ⟨⟨(fun h => nomatch h), rfl⟩, true, rfl, (fun h => nomatch h), fun _ => ⟨_, rfl, fun s H Cc cl fp => ?_⟩⟩
      exact ev_isi (T0 := "str") (r := true) Bt (ev_var 4 rfl) (by decide +kernel) Bt.str (by show kitB "str" "str" = _; decide +kernel)
    · refine sxs_nil ?_
      exact sxs_nil ⟨_, Wk.of (wkl_some rfl (wkl_some rfl (wkl_some rfl (wkl_none (wkl_none wkl_nil))))), (), rfl, hys⟩
  · exact sxs_ret ev_bl rfl
end
end Tl

/-! Stretches: how wide a row is, how high the feet are, up to a word. -/
namespace Tl
open PySem PySem.Spec PyProof.Rows L2 PV
def stW (ps : List Plc) (own : Nat → Nat) : Nat → Nat
  | 0 => own 0
  | k + 1 => if plAt ps k = plAt ps (k + 1) then stW ps own k + 1 + own (k + 1) else own (k + 1)
def stH (ps : List Plc) (ft : Nat → Nat) : Nat → Nat
  | 0 => ft 0
  | k + 1 => (if (plAt ps k).1 = (plAt ps (k + 1)).1 then stH ps ft k else 0) + ft (k + 1)
theorem stW_mono {ps : List Plc} {a b : Nat → Nat} : ∀ n, (∀ k, k ≤ n → a k ≤ b k) → stW ps a n ≤ stW ps b n
  | 0, h => h 0 (Nat.le_refl _)
  | n + 1, h => by
    have ih := stW_mono (ps := ps) n fun k hk => h k (by omega)
    have h1 := h (n + 1) (Nat.le_refl _)
    unfold stW
    split <;> omega
theorem stH_mono {ps : List Plc} {a b : Nat → Nat} : ∀ n, (∀ k, k ≤ n → a k ≤ b k) → stH ps a n ≤ stH ps b n
  | 0, h => h 0 (Nat.le_refl _)
  | n + 1, h => by
    have ih := stH_mono (ps := ps) n fun k hk => h k (by omega)
    have h1 := h (n + 1) (Nat.le_refl _)
    unfold stH
    split <;> omega
theorem own_stW (ps : List Plc) (a : Nat → Nat) (n : Nat) : a n ≤ stW ps a n := by
  cases n with
  | zero => exact Nat.le_refl _
  | succ n => unfold stW; split <;> omega
theorem own_stH (ps : List Plc) (a : Nat → Nat) (n : Nat) : a n ≤ stH ps a n := by
  cases n with
  | zero => exact Nat.le_refl _
  | succ n => unfold stH; omega
theorem stH_sum (ps : List Plc) (a : Nat → Nat) : ∀ n, stH ps a n ≤ ((List.range (n + 1)).map a).sum
  | 0 => by simp [stH]
  | n + 1 => by
    have ih := stH_sum ps a n
    rw [List.range_succ, List.map_append, List.sum_append]
    simp only [List.map_cons, List.map_nil, List.sum_cons, List.sum_nil]
    unfold stH
    split <;> omega
/-! ### what sizes are of -/
def ptAt (parts : List Part) (k : Nat) : Part := parts.getD k (.pg 0, [])
theorem ptAt_get {parts : List Part} {k : Nat} (h : k < parts.length) : parts[k]? = some (ptAt parts k) := by
  unfold ptAt
  rw [List.getD_eq_getElem?_getD, List.getElem?_eq_getElem h]
  rfl
def ownN (f : Frm) (ps : List Plc) (parts : List Part) (k : Nat) : Nat := (said f ps (ptAt parts k).1).length
def ftN (f : Frm) (ps : List Plc) (parts : List Part) (k : Nat) : Nat := highBy f ps (ptAt parts k).2
theorem szGo_ge (f : Frm) (ps : List Plc) (parts : List Part) : ∀ (n k : Nat) (s : Sz), k + n = parts.length → (0 < k → s.2.2.1 = stW ps (ownN f ps parts) (k - 1) ∧ s.2.2.2 = stH ps (ftN f ps parts) (k - 1)) →
    s.1 ≤ (szGo f ps k s (parts.drop k)).1 ∧ s.2.1 ≤ (szGo f ps k s (parts.drop k)).2.1 ∧ ∀ i, k ≤ i → i < parts.length → stW ps (ownN f ps parts) i ≤ (szGo f ps k s (parts.drop k)).1 ∧ (∀ y ∈ (ptAt parts i).2, (said f ps y).length ≤ (szGo f ps k s (parts.drop k)).1) ∧ (plAt ps i).2 + 1 + stH ps (ftN f ps parts) i ≤ (szGo f ps k s (parts.drop k)).2.1
  | 0, k, s, hk, _ => by
    rw [List.drop_of_length_le (by omega), szGo]
    exact ⟨Nat.le_refl _, Nat.le_refl _, fun i h1 h2 => by omega⟩
  | n + 1, k, s, hk, hs => by
    have hlt : k < parts.length := by omega
    have hd : parts.drop k = ptAt parts k :: parts.drop (k + 1) := by
      rw [List.drop_eq_getElem_cons hlt]
      congr 1
      exact Option.some.inj ((List.getElem?_eq_getElem hlt).symm.trans (ptAt_get hlt))
    rw [hd, szGo]
    have hrow : szRow f ps k (ptAt parts k) s = stW ps (ownN f ps parts) k := by
      unfold szRow
      cases k with
      | zero => rw [if_neg (fun h => absurd h.1 (by omega))]; rfl
      | succ k =>
        obtain ⟨h1, h2⟩ := hs (by omega)
        rw [Nat.add_sub_cancel] at h1 h2 ⊢
        unfold stW
        by_cases e : plAt ps k = plAt ps (k + 1)
        · rw [if_pos ⟨by omega, e⟩, if_pos e, h1]; rfl
        · rw [if_neg (fun h => e h.2), if_neg e]; rfl
    have hft : szFeet f ps k (ptAt parts k) s = stH ps (ftN f ps parts) k := by
      unfold szFeet
      cases k with
      | zero => rw [if_pos (.inl rfl), Nat.zero_add]; rfl
      | succ k =>
        obtain ⟨h1, h2⟩ := hs (by omega)
        rw [Nat.add_sub_cancel] at h1 h2 ⊢
        unfold stH
        by_cases e : (plAt ps k).1 = (plAt ps (k + 1)).1
        · rw [if_neg (fun h => h.elim (by omega) (fun h => h e)), if_pos e, h2]; rfl
        · rw [if_pos (.inr e), if_neg e]; rfl
    obtain ⟨a1, a2, a3⟩ := szGo_ge f ps parts n (k + 1) (szStep f ps k (ptAt parts k) s) (by omega) fun _ => ⟨by rw [Nat.add_sub_cancel]; exact hrow, by rw [Nat.add_sub_cancel]; exact hft⟩
    have b1 : ∀ x ∈ ([s.1, szRow f ps k (ptAt parts k) s] ++ (ptAt parts k).2.map fun y => (said f ps y).length), x ≤ (szStep f ps k (ptAt parts k) s).1 := fun x hx => le_maxN hx
    have b2 : (szStep f ps k (ptAt parts k) s).2.1 = max s.2.1 ((plAt ps k).2 + 1 + szFeet f ps k (ptAt parts k) s) := rfl
    refine ⟨Nat.le_trans (b1 _ (by simp)) a1, by rw [b2] at a2; omega, fun i h1 h2 => ?_⟩
    by_cases hi : i = k
    · subst hi
      refine ⟨Nat.le_trans ?_ a1, fun y hy => Nat.le_trans (b1 _ ?_) a1, ?_⟩
      · rw [← hrow]; exact b1 _ (by simp)
      · exact List.mem_append_right _ (List.mem_map.mpr ⟨y, hy, rfl⟩)
      · rw [← hft]; rw [b2] at a2; omega
    · exact a3 i (by omega) h2
theorem sizes_ge (f : Frm) (ps : List Plc) (parts : List Part) {i : Nat} (hi : i < parts.length) : stW ps (ownN f ps parts) i ≤ (sizes f parts ps).1 ∧ (∀ y ∈ (ptAt parts i).2, (said f ps y).length ≤ (sizes f parts ps).1) ∧ (plAt ps i).2 + 1 + stH ps (ftN f ps parts) i ≤ (sizes f parts ps).2 := by
  have h := (szGo_ge f ps parts parts.length 0 (1, 1, 0, 0) (by omega) (fun h => absurd h (by omega))).2.2 i (by omega) hi
  rw [List.drop_zero] at h
  exact h
/-! ### rows filled: how many -/
def grow (wide : Nat) : Nat → Nat → List Nat → Nat
  | rows, _, [] => rows
  | rows, used, s :: ss => if 0 < rows ∧ used + 1 + s ≤ wide then grow wide rows (used + 1 + s) ss else grow wide (rows + 1) s ss
theorem grow_mono {wide : Nat} : ∀ (a b : List Nat) (r u r' u' : Nat), a.length = b.length → (∀ (i x y : Nat), a[i]? = some x → b[i]? = some y → x ≤ y ∧ y ≤ wide) → (r < r' ∨ (r = r' ∧ u ≤ u')) → grow wide r u a ≤ grow wide r' u' b
  | [], [], r, u, r', u', _, _, h => by rw [grow, grow]; omega
  | [], _ :: _, _, _, _, _, hl, _, _ => by cases hl
  | _ :: _, [], _, _, _, _, hl, _, _ => by cases hl
  | x :: a, y :: b, r, u, r', u', hl, hxy, h => by
    have h0 := hxy 0 x y rfl rfl
    have ht : ∀ (i x y : Nat), a[i]? = some x → b[i]? = some y → x ≤ y ∧ y ≤ wide := fun i x' y' h1 h2 => hxy (i + 1) x' y' (by simpa using h1) (by simpa using h2)
    have hl' : a.length = b.length := by simpa using hl
    rw [grow, grow]
    split <;> split <;> exact grow_mono a b _ _ _ _ hl' ht (by omega)
theorem grow_le {wide : Nat} : ∀ (a : List Nat) (r u : Nat), grow wide r u a ≤ r + a.length
  | [], r, u => by rw [grow]; simp
  | x :: a, r, u => by
    rw [grow, List.length_cons]
    split
    · have := grow_le (wide := wide) a r (u + 1 + x); omega
    · have := grow_le (wide := wide) a (r + 1) x; omega
theorem grow_ge {wide : Nat} : ∀ (a : List Nat) (r u : Nat), r ≤ grow wide r u a
  | [], r, u => by rw [grow]; exact Nat.le_refl _
  | x :: a, r, u => by
    rw [grow]
    split
    · exact grow_ge a r _
    · have := grow_ge (wide := wide) a (r + 1) x; omega
theorem highGo_grow {wide high : Nat} : ∀ (a : List Nat) (r u : Nat), (∀ x ∈ a, x ≤ wide) → highGo wide high r u a = min (grow wide r u a) high
  | [], r, u, _ => by rw [highGo, grow]
  | x :: a, r, u, h => by
    have h0 := h x List.mem_cons_self
    have ht := fun y hy => h y (List.mem_cons_of_mem _ hy)
    rw [highGo, grow, if_neg (by omega)]
    split
    · exact highGo_grow a _ _ ht
    · exact highGo_grow a _ _ ht
/-- the rows of a foot -/
theorem fill_grow {wide : Nat} : ∀ (ts : List Str) (rows : List Str), (ts.foldl (fill1 wide) rows).length = grow wide rows.length (match rows.getLast? with | some r => r.length | none => 0) (ts.map (·.length))
  | [], rows => by rw [List.foldl_nil, List.map_nil, grow]
  | t :: ts, rows => by
    rw [List.foldl_cons, fill_grow ts, List.map_cons, grow]
    unfold fill1
    cases e : rows.getLast? with
    | none =>
      have : rows = [] := List.getLast?_eq_none_iff.mp e
      subst this
      rw [if_neg (fun h => absurd h.1 (by simp))]
      simp
    | some r =>
      have hne : 0 < rows.length := by
        cases rows with
        | nil => simp at e
        | cons => simp
      dsimp only
      by_cases h : r.length + 1 + t.length ≤ wide
      · rw [if_pos h, if_pos ⟨hne, h⟩, List.length_set]
        have hl : (rows.set (rows.length - 1) (r ++ (" " : Str) ++ t)).getLast? = some (r ++ (" " : Str) ++ t) := by
          rw [List.getLast?_eq_getElem?, List.length_set, List.getElem?_set_self (by omega)]
        rw [hl]
        show grow wide rows.length ((r ++ (" " : Str) ++ t).length) _ = _
        rw [app_size, app_size]
        rfl
      · rw [if_neg h, if_neg (fun z => h z.2), List.length_append, List.length_singleton, List.getLast?_concat]
theorem filled_len (f : Frm) (ps : List Plc) (foot : List Say) : (filled f ps foot).length = grow f.wide 0 0 (foot.map fun s => (said f ps s).length) := by
  unfold filled
  rw [fill_grow, List.map_map]
  rfl
theorem said_mono {f g : Frm} (h1 : f.high ≤ g.high) (h2 : f.first = g.first) (ps : List Plc) (s : Say) : (said f ps s).length ≤ (said g ps s).length := by
  cases s with
  | txt t => exact Nat.le_refl _
  | pg k => show (figS _).length ≤ (figS _).length; rw [h2]; exact Nat.le_refl _
  | rw k =>
    refine fig_mono ?_
    have := Nat.mul_le_mul_left (plAt ps k).1 h1
    omega
end Tl

/-! The drawn book fits its laying. -/
namespace Tl
open PySem PySem.Spec PyProof.Rows L2 PV
theorem le_sum : ∀ {l : List Nat} {x : Nat}, x ∈ l → x ≤ l.sum
  | [], x, h => by cases h
  | y :: l, x, h => by
    rw [List.sum_cons]
    rcases List.mem_cons.mp h with e | e
    · omega
    · have := le_sum e; omega
theorem some_pos {n many : Nat} {big : Bool} {t : Str} (h : someS n many big = .txt t) : 1 ≤ t.length := by
  unfold someS at h
  split at h
  · cases h
  · split at h
    · cases h
    · obtain rfl := Say.txt.inj h
      rw [signs_len]
      split <;> omega
theorem said_pos {n many : Nat} {big : Bool} (f : Frm) (ps : List Plc) : 1 ≤ (said f ps (someS n many big)).length := by
  cases h : someS n many big with
  | txt t => exact some_pos h
  | pg k => exact fig_pos _
  | rw k => exact fig_pos _
theorem part_own (len : Nat) (big : Bool) : ∀ (ns : List Nat) (left : Nat), ∀ p ∈ partGo len big left ns, (∃ m, p.1 = someS m len big) ∧ ∀ s ∈ p.2, ∃ m, s = someS m len big
  | [], _, p, h => by cases h
  | n :: ns, left, p, h => by
    rw [partGo] at h
    rcases List.mem_cons.mp h with e | e
    · subst e
      refine ⟨⟨_, rfl⟩, fun s hs => ?_⟩
      obtain ⟨k, _, rfl⟩ := List.mem_map.mp hs
      exact ⟨_, rfl⟩
    · exact part_own len big ns _ p e
theorem wordGo_get (f : Frm) (ps : List Plc) (ns : List Nat) : ∀ (l : List Part) (k i : Nat), (wordGo f ps ns k l)[i]? = (l[i]?).map (wordOf f ps ns (k + i))
  | [], k, i => by rw [wordGo]; simp
  | p :: l, k, 0 => by rw [wordGo]; rfl
  | p :: l, k, i + 1 => by
    rw [wordGo, List.getElem?_cons_succ, List.getElem?_cons_succ, wordGo_get f ps ns l (k + 1) i]
    rw [show k + 1 + i = k + (i + 1) by omega]
theorem wordGo_len (f : Frm) (ps : List Plc) (ns : List Nat) : ∀ (l : List Part) (k : Nat), (wordGo f ps ns k l).length = l.length
  | [], _ => rfl
  | p :: l, k => by rw [wordGo, List.length_cons, List.length_cons, wordGo_len f ps ns l]
section
variable {ns : List Int} {most : Nat}
theorem words_len (ns : List Int) (most : Nat) : (wordsN ns most).length = (layN ns most).length := by
  unfold wordsN
  rw [wordGo_len, parts_len, lay_len]
theorem words_get {k : Nat} {w : Wrd} (h : (wordsN ns most)[k]? = some w) : k < (layN ns most).length ∧ w = wordOf (formN ns most) (layN ns most) (numbers ns most) k (ptAt (partsN ns most) k) := by
  have hk : k < (wordsN ns most).length := (List.getElem?_eq_some_iff.mp h).1
  have hl := words_len ns most
  have hp : k < (partsN ns most).length := by rw [parts_len, ← lay_len]; omega
  unfold wordsN at h
  rw [wordGo_get, ptAt_get hp, Nat.zero_add] at h
  exact ⟨by omega, (Option.some.inj h).symm⟩
theorem pt_mem {k : Nat} (h : k < (layN ns most).length) : ptAt (partsN ns most) k ∈ partsN ns most := List.mem_of_getElem? (ptAt_get (by rw [parts_len, ← lay_len]; exact h))
theorem words_part {w : Wrd} (h : w ∈ wordsN ns most) : ∃ k, k < (layN ns most).length ∧ w.own = (ptAt (partsN ns most) k).1 ∧ w.foot = (ptAt (partsN ns most) k).2 := by
  obtain ⟨k, hk⟩ := List.mem_iff_getElem?.mp h
  obtain ⟨h1, h2⟩ := words_get hk
  exact ⟨k, h1, by rw [h2]; rfl, by rw [h2]; rfl⟩
theorem book_ok (hm : most ≤ 40) : okBk (formN ns most) (wordsN ns most) (layN ns most) := by
  refine ⟨(form_ok hm).1, lay_pls hm, words_len ns most, fun w hw => ?_⟩
  obtain ⟨k, hk, h1, h2⟩ := words_part hw
  have := (draw_ok hm).part _ (pt_mem hk)
  exact ⟨by rw [h1]; exact this.1, by rw [h2]; exact this.2⟩
theorem text_pos (f : Frm) (ps : List Plc) {w : Wrd} (hw : w ∈ wordsN ns most) : 1 ≤ (said f ps w.own).length ∧ ∀ s ∈ w.foot, 1 ≤ (said f ps s).length := by
  obtain ⟨k, hk, h1, h2⟩ := words_part hw
  obtain ⟨⟨m, e⟩, h3⟩ := part_own _ _ _ _ _ (pt_mem hk)
  refine ⟨by rw [h1, e]; exact said_pos _ _, fun s hs => ?_⟩
  obtain ⟨m, e⟩ := h3 s (h2 ▸ hs)
  rw [e]; exact said_pos _ _
theorem lay_page (hm : most ≤ 40) : ∀ k, k < (layN ns most).length → (plAt (layN ns most) k).1 < manyOf (layN ns most) := by
  intro k hk
  have hne : layN ns most ≠ [] := fun e => by rw [e] at hk; exact absurd hk (by simp)
  have hl : (layN ns most).getLast? = some (plAt (layN ns most) ((layN ns most).length - 1)) := by
    rw [List.getLast?_eq_getElem?]
    exact plAt_get (by omega)
  unfold manyOf
  rw [hl]
  show _ < (plAt (layN ns most) ((layN ns most).length - 1)).1 + 1
  have key : ∀ d j, j + d < (layN ns most).length → (plAt (layN ns most) j).1 ≤ (plAt (layN ns most) (j + d)).1 := by
    intro d
    induction d with
    | zero => intro j _; exact Nat.le_refl _
    | succ d ih =>
      intro j hj
      have h1 := ih j (by omega)
      have h2 := lay_rises (ns := ns) (most := most) (k := j + (d + 1)) (by omega) hj
      rw [show j + (d + 1) - 1 = j + d by omega] at h2
      rcases h2 with h2 | ⟨h2, _⟩ <;> omega
  have := key ((layN ns most).length - 1 - k) k (by omega)
  rw [show k + ((layN ns most).length - 1 - k) = (layN ns most).length - 1 by omega] at this
  omega
/-- the widths and heights of the drawn book -/
def form1 (ns : List Int) (most : Nat) : Frm := ⟨200, mostOf (partsN ns most) (baseN ns), firstN ns, 60⟩
def form2 (ns : List Int) (most : Nat) : Frm := ⟨(formN ns most).wide, mostOf (partsN ns most) (baseN ns), firstN ns, 60⟩
theorem wide_ge : (sizes (form1 ns most) (partsN ns most) (layN ns most)).1 ≤ (formN ns most).wide := Nat.le_add_right _ _
theorem high_is : (formN ns most).high = min (mostOf (partsN ns most) (baseN ns)) (max (baseN ns) (sizes (form2 ns most) (partsN ns most) (layN ns most)).2 + bookNo ns / 6 / 12 % 2) := rfl
theorem high_most : (formN ns most).high ≤ mostOf (partsN ns most) (baseN ns) := by rw [high_is]; omega
theorem said_le1 (s : Say) : (said (formN ns most) (layN ns most) s).length ≤ (said (form1 ns most) (layN ns most) s).length := said_mono (g := form1 ns most) high_most rfl _ _
theorem foot_wide {k : Nat} (hk : k < (layN ns most).length) : ∀ s ∈ (ptAt (partsN ns most) k).2, (said (form1 ns most) (layN ns most) s).length ≤ (formN ns most).wide := fun s hs =>
  Nat.le_trans ((sizes_ge (form1 ns most) (layN ns most) (partsN ns most) (i := k) (by rw [parts_len, ← lay_len]; exact hk)).2.1 s hs) wide_ge
theorem row_wide {k : Nat} (hk : k < (layN ns most).length) : stW (layN ns most) (ownN (formN ns most) (layN ns most) (partsN ns most)) k ≤ (formN ns most).wide :=
  Nat.le_trans (stW_mono k fun j _ => said_le1 _) (Nat.le_trans (sizes_ge (form1 ns most) (layN ns most) (partsN ns most) (i := k) (by rw [parts_len, ← lay_len]; exact hk)).1 wide_ge)
/-- how many rows a foot has -/
def rowsN (ns : List Int) (most k : Nat) : Nat := (filled (formN ns most) (layN ns most) (ptAt (partsN ns most) k).2).length
theorem rows_le2 {k : Nat} (hk : k < (layN ns most).length) : rowsN ns most k ≤ ftN (form2 ns most) (layN ns most) (partsN ns most) k := by
  have hfw := foot_wide hk
  have hsum : (ptAt (partsN ns most) k).2.length ≤ mostOf (partsN ns most) (baseN ns) := by
    have : (ptAt (partsN ns most) k).2.length ≤ ((partsN ns most).map fun p => p.2.length).sum := le_sum (List.mem_map.mpr ⟨_, pt_mem hk, rfl⟩)
    unfold mostOf; omega
  have e12 : ∀ s, said (form2 ns most) (layN ns most) s = said (form1 ns most) (layN ns most) s := fun s => by cases s <;> rfl
  unfold rowsN ftN highBy
  rw [filled_len, highGo_grow _ _ _ (fun x hx => by obtain ⟨s, hs, rfl⟩ := List.mem_map.mp hx; rw [e12]; exact hfw s hs)]
  have h1 : grow (formN ns most).wide 0 0 ((ptAt (partsN ns most) k).2.map fun s => (said (formN ns most) (layN ns most) s).length) ≤ grow (formN ns most).wide 0 0 ((ptAt (partsN ns most) k).2.map fun s => (said (form2 ns most) (layN ns most) s).length) := by
    refine grow_mono _ _ _ _ _ _ (by simp) (fun i x y hx hy => ?_) (.inr ⟨rfl, Nat.le_refl _⟩)
    rw [List.getElem?_map] at hx hy
    cases e : (ptAt (partsN ns most) k).2[i]? with
    | none => rw [e] at hx; cases hx
    | some s =>
      rw [e] at hx hy
      obtain rfl := Option.some.inj hx
      obtain rfl := Option.some.inj hy
      dsimp only
      rw [e12]
      exact ⟨said_le1 s, hfw s (List.mem_of_getElem? e)⟩
  have h2 := grow_le (wide := (formN ns most).wide) ((ptAt (partsN ns most) k).2.map fun s => (said (formN ns most) (layN ns most) s).length) 0 0
  rw [List.length_map] at h2
  show _ ≤ min (grow (formN ns most).wide 0 0 _) (mostOf (partsN ns most) (baseN ns))
  omega
theorem range_get_sum {α : Type} (g : α → Nat) (d : α) : ∀ l : List α, ∀ n, n ≤ l.length → ((List.range n).map fun k => g (l.getD k d)).sum ≤ (l.map g).sum
  | [], n, h => by
    have : n = 0 := by simpa using h
    subst this; simp
  | a :: l, 0, h => by simp
  | a :: l, n + 1, h => by
    have ih := range_get_sum g d l n (by simpa using h)
    rw [List.range_succ_eq_map, List.map_cons, List.sum_cons, List.map_map, List.map_cons, List.sum_cons]
    have e : ((fun k => g ((a :: l).getD k d)) ∘ Nat.succ) = fun k => g (l.getD k d) := by funext k; simp
    rw [e]
    show g a + _ ≤ _
    omega
/-- the feet stand under the words -/
theorem feet_high (hm : most ≤ 40) {k : Nat} (hk : k < (layN ns most).length) : (plAt (layN ns most) k).2 + 1 + stH (layN ns most) (rowsN ns most) k ≤ (formN ns most).high := by
  have h1 : stH (layN ns most) (rowsN ns most) k ≤ stH (layN ns most) (ftN (form2 ns most) (layN ns most) (partsN ns most)) k := stH_mono k fun j hj => rows_le2 (by omega)
  have h2 := (sizes_ge (form2 ns most) (layN ns most) (partsN ns most) (i := k) (by rw [parts_len, ← lay_len]; exact hk)).2.2
  have h3 := (lay_at (ns := ns) hm k).1
  have hfl : ∀ j, rowsN ns most j ≤ (ptAt (partsN ns most) j).2.length := fun j => by
    unfold rowsN
    rw [filled_len]
    have := grow_le (wide := (formN ns most).wide) ((ptAt (partsN ns most) j).2.map fun s => (said (formN ns most) (layN ns most) s).length) 0 0
    rw [List.length_map] at this
    omega
  have h4 : stH (layN ns most) (rowsN ns most) k ≤ ((partsN ns most).map fun p => p.2.length).sum := by
    refine Nat.le_trans (stH_mono k fun j _ => hfl j) (Nat.le_trans (stH_sum _ _ k) ?_)
    exact range_get_sum (fun p : Part => p.2.length) (.pg 0, []) (partsN ns most) (k + 1) (by rw [parts_len, ← lay_len]; omega)
  rw [high_is]
  unfold mostOf
  omega
end
end Tl

/-! Stretches of rising places: what stands in a row, under a page. -/
namespace Tl
open PySem PySem.Spec PyProof.Rows L2 PV
theorem stH_succ (ps : List Plc) (ft : Nat → Nat) (k : Nat) : stH ps ft (k + 1) = (if (plAt ps k).1 = (plAt ps (k + 1)).1 then stH ps ft k else 0) + ft (k + 1) := rfl
theorem stW_succ (ps : List Plc) (own : Nat → Nat) (k : Nat) : stW ps own (k + 1) = if plAt ps k = plAt ps (k + 1) then stW ps own k + 1 + own (k + 1) else own (k + 1) := rfl
def risesP (ps : List Plc) : Prop := ∀ k, 0 < k → k < ps.length → leP (plAt ps (k - 1)) (plAt ps k)
theorem leP_trans {a b c : Plc} (h : leP a b) (h' : leP b c) : leP a c := by
  unfold leP at *
  omega
theorem rises_le {ps : List Plc} (h : risesP ps) : ∀ d j, j + d < ps.length → leP (plAt ps j) (plAt ps (j + d))
  | 0, j, _ => .inr ⟨rfl, Nat.le_refl _⟩
  | d + 1, j, hj => by
    have h1 := rises_le h d j (by omega)
    have h2 := h (j + (d + 1)) (by omega) hj
    rw [show j + (d + 1) - 1 = j + d by omega] at h2
    exact leP_trans h1 h2
def wdAt (ws : List Wrd) (k : Nat) : Wrd := ws.getD k ⟨0, false, .pg 0, []⟩
theorem wdAt_get {ws : List Wrd} {k : Nat} (h : k < ws.length) : ws[k]? = some (wdAt ws k) := by
  unfold wdAt
  rw [List.getD_eq_getElem?_getD, List.getElem?_eq_getElem h]
  rfl
def ownW (f : Frm) (ps : List Plc) (ws : List Wrd) (k : Nat) : Nat := (said f ps (wdAt ws k).own).length
def rowsW (f : Frm) (ps : List Plc) (ws : List Wrd) (k : Nat) : Nat := (filled f ps (wdAt ws k).foot).length
section
variable {f : Frm} {ws : List Wrd} {ps : List Plc}
theorem take_zip (hl : ws.length = ps.length) {k : Nat} (hk : k < ps.length) : (ps.zip ws).take (k + 1) = (ps.zip ws).take k ++ [(plAt ps k, wdAt ws k)] := take_zip_succ (plAt_get hk) (wdAt_get (by omega))
/-- the rows under a page, up to a word of the page -/
theorem feet_upto (hl : ws.length = ps.length) (h : risesP ps) : ∀ k, k < ps.length → ∀ g, (plAt ps k).1 ≤ g → (feetAt f ps g ((ps.zip ws).take (k + 1))).length = if (plAt ps k).1 = g then stH ps (rowsW f ps ws) k else 0 := by
  intro k
  induction k with
  | zero =>
    intro hk g hg
    rw [take_zip hl hk, List.take_zero, feetAt_snoc]
    split
    · rw [List.length_append]; show 0 + _ = _; rw [Nat.zero_add]; rfl
    · rfl
  | succ k ih =>
    intro hk g hg
    have h1 := h (k + 1) (by omega) hk
    rw [Nat.add_sub_cancel] at h1
    have hle : (plAt ps k).1 ≤ (plAt ps (k + 1)).1 := by rcases h1 with h1 | ⟨h1, _⟩ <;> omega
    have ih := ih (by omega) g (by omega)
    rw [take_zip hl hk, feetAt_snoc]
    dsimp only
    by_cases e : (plAt ps (k + 1)).1 = g
    · rw [if_pos e, if_pos e, List.length_append, ih]
      rw [stH_succ, e]
      rfl
    · rw [if_neg e, if_neg e, ih, if_neg (by omega)]
theorem body_upto (hl : ws.length = ps.length) (h : risesP ps) : ∀ k, k < ps.length → ∀ p, leP (plAt ps k) p → match bodyAt f ps p ((ps.zip ws).take (k + 1)) with
    | none => plAt ps k ≠ p
    | some t => plAt ps k = p ∧ t.length = stW ps (ownW f ps ws) k := by
  intro k
  induction k with
  | zero =>
    intro hk p hp
    rw [take_zip hl hk, List.take_zero, bodyAt_snoc]
    by_cases e : plAt ps 0 = p
    · rw [if_pos e]; exact ⟨e, rfl⟩
    · rw [if_neg e]; exact e
  | succ k ih =>
    intro hk p hp
    have h1 := h (k + 1) (by omega) hk
    rw [Nat.add_sub_cancel] at h1
    have ih := ih (by omega) p (leP_trans h1 hp)
    rw [take_zip hl hk, bodyAt_snoc]
    by_cases e : plAt ps (k + 1) = p
    · rw [if_pos e]
      refine ⟨e, ?_⟩
      rw [stW_succ]
      cases hb : bodyAt f ps p ((ps.zip ws).take (k + 1)) with
      | none => rw [hb] at ih; rw [if_neg (by rw [e]; exact ih)]; rfl
      | some t =>
        rw [hb] at ih
        rw [if_pos (by rw [e]; exact ih.1)]
        show (t ++ (" " : Str) ++ said f ps (wdAt ws (k + 1)).own).length = _
        rw [app_size, app_size, ih.2]
        rfl
    · rw [if_neg e]
      cases hb : bodyAt f ps p ((ps.zip ws).take (k + 1)) with
      | none => exact e
      | some t =>
        rw [hb] at ih
        refine absurd ?_ e
        have a := ih.1
        subst a
        have : leP (plAt ps (k + 1)) (plAt ps k) := hp
        unfold leP at *
        exact Prod.ext (by omega) (by omega)
/-- beyond: nothing of later words -/
theorem feet_after (hl : ws.length = ps.length) (h : risesP ps) {g k : Nat} (hk : k < ps.length) (hg : ∀ j, k < j → j < ps.length → (plAt ps j).1 ≠ g) : ∀ d, k + 1 + d ≤ ps.length → feetAt f ps g ((ps.zip ws).take (k + 1 + d)) = feetAt f ps g ((ps.zip ws).take (k + 1))
  | 0, _ => rfl
  | d + 1, hd => by
    have ih := feet_after hl h hk hg d (by omega)
    rw [show k + 1 + (d + 1) = (k + 1 + d) + 1 by omega, take_zip hl (by omega), feetAt_snoc, if_neg (hg _ (by omega) (by omega)), ih]
theorem feet_none (hl : ws.length = ps.length) {g : Nat} (hg : ∀ j, j < ps.length → (plAt ps j).1 ≠ g) : ∀ d, d ≤ ps.length → feetAt f ps g ((ps.zip ws).take d) = []
  | 0, _ => rfl
  | d + 1, hd => by rw [take_zip hl (by omega), feetAt_snoc, if_neg (hg _ (by omega)), feet_none hl hg d (by omega)]
/-- the last word of a page, or none -/
theorem last_on (ps : List Plc) (q : Plc → Bool) : (∀ j, j < ps.length → q (plAt ps j) = false) ∨ ∃ k, k < ps.length ∧ q (plAt ps k) = true ∧ ∀ j, k < j → j < ps.length → q (plAt ps j) = false := by
  have key : ∀ n, n ≤ ps.length → (∀ j, j < n → q (plAt ps j) = false) ∨ ∃ k, k < n ∧ q (plAt ps k) = true ∧ ∀ j, k < j → j < n → q (plAt ps j) = false := by
    intro n
    induction n with
    | zero => intro _; left; intro j hj; omega
    | succ n ih =>
      intro hn
      by_cases e : q (plAt ps n) = true
      · exact .inr ⟨n, by omega, e, fun j h1 h2 => by omega⟩
      · have e : q (plAt ps n) = false := by simpa using e
        rcases ih (by omega) with h | ⟨k, h1, h2, h3⟩
        · left; intro j hj
          by_cases z : j = n
          · subst z; exact e
          · exact h j (by omega)
        · refine .inr ⟨k, by omega, h2, fun j hj1 hj2 => ?_⟩
          by_cases z : j = n
          · subst z; exact e
          · exact h3 j hj1 (by omega)
  exact key ps.length (Nat.le_refl _)
theorem zip_all (hl : ws.length = ps.length) : (ps.zip ws).take ps.length = ps.zip ws := List.take_of_length_le (by rw [List.length_zip]; omega)
/-- the feet of a page: as high as told at its last word -/
theorem feet_page (hl : ws.length = ps.length) (h : risesP ps) (g : Nat) : (feetAt f ps g (ps.zip ws) = [] ∧ ∀ j, j < ps.length → (plAt ps j).1 ≠ g) ∨ ∃ k, k < ps.length ∧ (plAt ps k).1 = g ∧ (∀ j, k < j → j < ps.length → (plAt ps j).1 ≠ g) ∧ (feetAt f ps g (ps.zip ws)).length = stH ps (rowsW f ps ws) k := by
  rcases last_on ps (fun p => decide (p.1 = g)) with hn | ⟨k, hk, h1, h2⟩
  · have hn : ∀ j, j < ps.length → (plAt ps j).1 ≠ g := fun j hj => by simpa using hn j hj
    left
    refine ⟨?_, hn⟩
    have := feet_none (f := f) hl hn ps.length (Nat.le_refl _)
    rwa [zip_all hl] at this
  · right
    have h1 : (plAt ps k).1 = g := by simpa using h1
    have h2 : ∀ j, k < j → j < ps.length → (plAt ps j).1 ≠ g := fun j a b => by simpa using h2 j a b
    refine ⟨k, hk, h1, h2, ?_⟩
    have a := feet_after (f := f) hl h hk h2 (ps.length - (k + 1)) (by omega)
    rw [show k + 1 + (ps.length - (k + 1)) = ps.length by omega, zip_all hl] at a
    rw [a, feet_upto hl h k hk g (by omega), if_pos h1]
end
end Tl

/-! Pages read back: what a saying truly says. -/
namespace Tl
open PySem PySem.Spec PyProof.Rows L2 PV
section
variable {P : Program} {w : World} {K : PySem.W.Frag} {mg : Str → Option Value} {base : Heap} {C : Ec → Addr}
abbrev InTru := InSay × List Page
def preTru (f : Frm) (ps : List Plc) (pg : List Page) : Prop := ∀ k, k < ps.length → ∃ rows, pg[(plAt ps k).1]? = some (((f.first + (plAt ps k).1 : Nat) : Int), rows)
abbrev C_truly (P : Program) (w : World) (K : PySem.W.Frag) (mg : Str → Option Value) (base : Heap) (C : Ec → Addr) := Callee P w K mg base 1 "_law_truly" (spP K C 4 (fun i : InTru => [fz (frD i.1.1), fz (sayD i.1.2.1), fz (.list (i.1.2.2.map plD)), fz (.list (i.2.map pgD))]) (fun i => preSay i.1 ∧ preTru i.1.1 i.1.2.2 i.2) (fun i => is (.ok (fz (.str (said i.1.1 i.1.2.2 i.1.2.1))))))
theorem ok_truly (Bt : Blt mg) (D : Df K mg "_law_truly" s_law_truly) : C_truly P w K mg base C := by
  refine callee_of D sc_law_truly (fun _ _ _ _ _ _ us hl => match us, hl with | [_, _, _, _], _ => rfl) (fun f cdv A outer s H E c i hi => ?_)
  obtain ⟨⟨fm, sy, ps⟩, pg⟩ := i
  obtain ⟨⟨hf, hp, hs⟩, ht⟩ := hi
  simp only at hf hp hs ht
  show Sxs _ _ _ [some (fz (frD fm)), some (fz (sayD sy)), some (fz (.list (ps.map plD))), some (fz (.list (pg.map pgD))), none, none] _
  have lt1 : ∀ k, fm.first + (plAt ps k).1 < 10 ^ 100 := fun k => Nat.lt_of_lt_of_le (num1 hf hp k) (by decide +kernel)
  have lt2 : ∀ k, (plAt ps k).1 * fm.high + (plAt ps k).2 + 1 < 10 ^ 100 := fun k => Nat.lt_of_lt_of_le (num2 hf hp k) (by decide +kernel)
  cases sy with
  | txt t =>
    refine sxs_if (tst_cm (cm_eqS (ev_ixT (ev_var 1 rfl) ev_int rfl) ev_str)) (fun h => ?_) (fun h => absurd h (by decide +kernel))
    exact sxs_ret (ev_ixT (ev_var 1 rfl) ev_int rfl) rfl
  | pg k =>
    obtain ⟨rows, hr⟩ := ht k hs
    refine sxs_if (tst_cm (cm_eqS (ev_ixT (ev_var 1 rfl) ev_int rfl) ev_str)) (fun h => absurd h (by decide +kernel)) (fun h => ?_)
    refine sxs_nil ?_
    refine sxs_unpack (tg_tup c.calm (tgs_cons 4 c.nd (tgs_cons 5 c.nd tgs_nil))) (ev_ixL (Bv.bw (Ev.bv (ev_var 2 rfl))) (ev_ixT (ev_var 1 rfl) ev_int rfl) (atI_map plD (plAt_get hs))) rfl ?_
    refine sxs_if (tst_cm (cm_eqS (ev_ixT (ev_var 1 rfl) ev_int rfl) ev_str)) (fun h => ?_) (fun h => absurd h (by decide +kernel))
    exact sxs_ret (ev_strI Bt (ev_ixT (ev_ixL (Bv.bw (Ev.bv (ev_var 3 rfl))) (ev_var 4 rfl) (atI_map pgD hr)) ev_int rfl) (log2_small (lt1 k))) rfl
  | rw k =>
    refine sxs_if (tst_cm (cm_eqS (ev_ixT (ev_var 1 rfl) ev_int rfl) ev_str)) (fun h => absurd h (by decide +kernel)) (fun h => ?_)
    refine sxs_nil ?_
    refine sxs_unpack (tg_tup c.calm (tgs_cons 4 c.nd (tgs_cons 5 c.nd tgs_nil))) (ev_ixL (Bv.bw (Ev.bv (ev_var 2 rfl))) (ev_ixT (ev_var 1 rfl) ev_int rfl) (atI_map plD (plAt_get hs))) rfl ?_
    refine sxs_if (tst_cm (cm_eqS (ev_ixT (ev_var 1 rfl) ev_int rfl) ev_str)) (fun h => absurd h (by decide +kernel)) (fun h => ?_)
    refine sxs_nil ?_
    have hb := (hp.2 k).1
    exact sxs_ret (ev_strI Bt ((ev_add (ev_add (ev_mul (.inl ⟨by omega, by omega⟩) (ev_var 4 rfl) (ev_ixT (ev_var 0 rfl) ev_int rfl)) (ev_var 5 rfl)) ev_int).to (e := .int (((plAt ps k).1 * fm.high + (plAt ps k).2 + 1 : Nat) : Int)) (by simp)) (log2_small (lt2 k))) rfl
end
end Tl

/-! Pages read back: the words of a row. -/
namespace Tl
open PySem PySem.Spec PyProof.Rows L2 PV
/-- no blank -/
def nob (t : Str) : Prop := 32 ∉ t.cps.toList
def wordsAt (f : Frm) (ps : List Plc) (p : Plc) (L : List Item) : List Str := (L.filter fun x => decide (x.1 = p)).map fun x => said f ps x.2.own
theorem wordsAt_app (f : Frm) (ps : List Plc) (p : Plc) (L M : List Item) : wordsAt f ps p (L ++ M) = wordsAt f ps p L ++ wordsAt f ps p M := by
  unfold wordsAt; rw [List.filter_append, List.map_append]
theorem wordsAt_one (f : Frm) (ps : List Plc) (p : Plc) (x : Item) : wordsAt f ps p [x] = if x.1 = p then [said f ps x.2.own] else [] := by
  unfold wordsAt
  by_cases h : x.1 = p
  · rw [if_pos h, List.filter_cons_of_pos (by simpa using h)]; rfl
  · rw [if_neg h, List.filter_cons_of_neg (by simpa using h)]; rfl
theorem joinL_snoc (S : List Nat) (t : List Nat) : ∀ xs : List (List Nat), xs ≠ [] → TL.joinL S (xs ++ [t]) = TL.joinL S xs ++ (S ++ t)
  | [], h => absurd rfl h
  | [x], _ => rfl
  | x :: y :: r, _ => by
    show x ++ (S ++ TL.joinL S ((y :: r) ++ [t])) = _
    rw [joinL_snoc S t (y :: r) (by simp)]
    show _ = x ++ (S ++ TL.joinL S (y :: r)) ++ (S ++ t)
    simp
theorem join_snoc {xs : List Str} (t : Str) (h : xs ≠ []) : Txt.join (" " : Str) (xs ++ [t]) = Txt.join (" " : Str) xs ++ (" " : Str) ++ t := by
  refine TL.ext_tl ?_
  rw [TL.join_eq, TL.join_eq, TL.tl_join, List.map_append, List.map_cons, List.map_nil, joinL_snoc _ _ _ (by simpa using h), TL.tl_append, TL.tl_append, TL.tl_join, List.append_assoc]
theorem join_one (t : Str) : Txt.join (" " : Str) [t] = t := by rw [TL.join_eq]; rfl
theorem body_join (f : Frm) (ps : List Plc) (p : Plc) : ∀ L : List Item, bodyAt f ps p L = if wordsAt f ps p L = [] then none else some (Txt.join (" " : Str) (wordsAt f ps p L)) := by
  refine snocRec rfl fun L x ih => ?_
  rw [bodyAt_snoc, wordsAt_app, wordsAt_one]
  by_cases h : x.1 = p
  · rw [if_pos h, if_pos h, ih]
    by_cases e : wordsAt f ps p L = []
    · rw [if_pos e, e, if_neg (by simp), List.nil_append, join_one]
    · rw [if_neg e, if_neg (by simp), join_snoc _ e]
  · rw [if_neg h, if_neg h, List.append_nil, ih]
theorem split_row {xs : List Str} (h : xs ≠ []) (hn : ∀ x ∈ xs, nob x) : Txt.split (Txt.join (" " : Str) xs) (" " : Str) = xs :=
  TL.split_join (s := 32) (S := []) rfl (by decide +kernel) h hn
theorem fig_nob (n : Nat) : nob (figS n) := by
  unfold nob
  rw [fig_cps]
  intro h
  obtain ⟨c, hc, e⟩ := List.mem_map.mp h
  have h2 := Nat.isDigit_of_mem_toDigits (b := 10) (by decide) (by decide) hc
  have : c = ' ' := Char.ext (UInt32.toNat_inj.mp e)
  subst this
  exact absurd h2 (by decide)
def nobSay : Say → Prop
  | .txt t => nob t
  | _ => True
theorem said_nob {f : Frm} {ps : List Plc} {s : Say} (h : nobSay s) : nob (said f ps s) := by
  cases s with
  | txt t => exact h
  | pg k => exact fig_nob _
  | rw k => exact fig_nob _
/-- what is wanted of a laying that is read back -/
structure okRead (f : Frm) (ws : List Wrd) (ps : List Plc) : Prop where
  bk : okBk f ws ps
  rises : risesP ps
  fit : ∀ k, k < ps.length → (plAt ps k).2 + 1 + stH ps (rowsW f ps ws) k ≤ f.high
  clean : ∀ w ∈ ws, nobSay w.own ∧ ∀ s ∈ w.foot, nobSay s
section
variable {f : Frm} {ws : List Wrd} {ps : List Plc}
theorem okRead.row (h : okRead f ws ps) {k : Nat} (hk : k < ps.length) : (plAt ps k).2 < f.high := by have := h.fit k hk; omega
theorem rises_page (h : risesP ps) {k : Nat} (hk : k < ps.length) : (plAt ps k).1 < manyOf ps := by
  have hne : ps ≠ [] := fun e => by rw [e] at hk; exact absurd hk (by simp)
  have hl : ps.getLast? = some (plAt ps (ps.length - 1)) := by
    rw [List.getLast?_eq_getElem?]
    exact plAt_get (by omega)
  unfold manyOf
  rw [hl]
  show _ < (plAt ps (ps.length - 1)).1 + 1
  have := rises_le h (ps.length - 1 - k) k (by omega)
  rw [show k + (ps.length - 1 - k) = ps.length - 1 by omega] at this
  rcases this with a | ⟨a, _⟩ <;> omega
theorem page_get {g : Nat} (hg : g < manyOf ps) : (pagesOf f ws ps)[g]? = some (pageAt f ps (ps.zip ws) g) := by
  unfold pagesOf
  rw [List.getElem?_map, List.getElem?_range hg]
  rfl
theorem read_tru (h : okRead f ws ps) : preTru f ps (pagesOf f ws ps) := fun k hk => ⟨_, page_get (rises_page h.rises hk)⟩
/-- the feet of a page stand below the row of each of its words -/
theorem okRead.below (h : okRead f ws ps) {k : Nat} (hk : k < ps.length) : (plAt ps k).2 + 1 + (feetAt f ps (plAt ps k).1 (ps.zip ws)).length ≤ f.high := by
  rcases feet_page (f := f) h.bk.len h.rises (plAt ps k).1 with ⟨_, z⟩ | ⟨j, hj, e, after, hl⟩
  · exact absurd rfl (z k hk)
  · rw [hl]
    have h1 := h.fit j hj
    have hkj : k ≤ j := by
      apply Nat.le_of_not_lt
      intro hlt
      exact after k hlt hk rfl
    have h2 := rises_le h.rises (j - k) k (by omega)
    rw [show k + (j - k) = j by omega] at h2
    rcases h2 with a | ⟨_, a⟩ <;> omega
theorem okRead.feet (h : okRead f ws ps) (g : Nat) : (feetAt f ps g (ps.zip ws)).length ≤ f.high := by
  rcases feet_page (f := f) h.bk.len h.rises g with ⟨z, _⟩ | ⟨j, hj, e, after, hl⟩
  · rw [z]; exact Nat.zero_le _
  · rw [hl]; have h1 := h.fit j hj; omega
theorem page_high (h : okRead f ws ps) (g : Nat) : (pageAt f ps (ps.zip ws) g).2.length = f.high := by
  have := h.feet g
  unfold pageAt
  rw [List.length_append, List.length_map, List.length_range]
  omega
/-- what stands in a word's row -/
theorem row_get (h : okRead f ws ps) {k : Nat} (hk : k < ps.length) : (pageAt f ps (ps.zip ws) (plAt ps k).1).2[(plAt ps k).2]? = some (Txt.join (" " : Str) (wordsAt f ps (plAt ps k) (ps.zip ws))) ∧ wordsAt f ps (plAt ps k) (ps.zip ws) ≠ [] := by
  have hb := h.below hk
  have hx : (plAt ps k, wdAt ws k) ∈ ps.zip ws := by
    have := take_zip h.bk.len hk
    have m : (plAt ps k, wdAt ws k) ∈ (ps.zip ws).take (k + 1) := by rw [this]; exact List.mem_append_right _ List.mem_cons_self
    exact List.mem_of_mem_take m
  have hne : wordsAt f ps (plAt ps k) (ps.zip ws) ≠ [] := by
    unfold wordsAt
    intro z
    have z := List.map_eq_nil_iff.mp z
    have := (List.mem_filter (p := fun x : Item => decide (x.1 = plAt ps k))).mpr ⟨hx, (by simp : decide ((plAt ps k, wdAt ws k).1 = plAt ps k) = true)⟩
    rw [z] at this
    cases this
  refine ⟨?_, hne⟩
  show (((List.range (f.high - (feetAt f ps (plAt ps k).1 (ps.zip ws)).length)).map fun r => (bodyAt f ps ((plAt ps k).1, r) (ps.zip ws)).getD ("" : Str)) ++ feetAt f ps (plAt ps k).1 (ps.zip ws))[(plAt ps k).2]? = _
  rw [List.getElem?_append_left (by simp; omega), List.getElem?_map, List.getElem?_range (by omega), Option.map_some]
  have e : ((plAt ps k).1, (plAt ps k).2) = plAt ps k := rfl
  rw [e, body_join, if_neg hne]
  rfl
/-- the words of a row: those ahead, the word, those behind -/
theorem words_ahead (h : okRead f ws ps) {k : Nat} (hk : k < ps.length) : wordsAt f ps (plAt ps k) ((ps.zip ws).take k) = if 0 < k ∧ plAt ps (k - 1) = plAt ps k then wordsAt f ps (plAt ps (k - 1)) ((ps.zip ws).take (k - 1)) ++ [said f ps (wdAt ws (k - 1)).own] else [] := by
  cases k with
  | zero => rw [if_neg (fun h => absurd h.1 (by omega)), List.take_zero]; rfl
  | succ k =>
    rw [Nat.add_sub_cancel]
    by_cases e : plAt ps k = plAt ps (k + 1)
    · rw [if_pos ⟨by omega, e⟩, take_zip h.bk.len (by omega), wordsAt_app, wordsAt_one, if_pos (by exact e), e]
    · rw [if_neg (fun z => e z.2)]
      have hb := body_upto (f := f) h.bk.len h.rises k (by omega) (plAt ps (k + 1)) (by
        have := h.rises (k + 1) (by omega) hk
        rwa [Nat.add_sub_cancel] at this)
      rw [body_join] at hb
      by_cases z : wordsAt f ps (plAt ps (k + 1)) ((ps.zip ws).take (k + 1)) = []
      · exact z
      · rw [if_neg z] at hb
        exact absurd hb.1 e
theorem words_behind (h : okRead f ws ps) {k : Nat} (hk : k < ps.length) (hn : k + 1 = ps.length ∨ plAt ps (k + 1) ≠ plAt ps k) : wordsAt f ps (plAt ps k) ((ps.zip ws).drop (k + 1)) = [] := by
  unfold wordsAt
  rw [List.map_eq_nil_iff, List.filter_eq_nil_iff]
  intro x hx
  obtain ⟨i, hi⟩ := List.mem_iff_getElem?.mp hx
  rw [List.getElem?_drop] at hi
  have hi' := List.getElem?_zip_eq_some.mp hi
  have hlt : k + 1 + i < ps.length := (List.getElem?_eq_some_iff.mp hi'.1).1
  have e := (plAt_get hlt).symm.trans hi'.1
  have e := Option.some.inj e
  have ne : plAt ps (k + 1) ≠ plAt ps k := by
    rcases hn with z | z
    · omega
    · exact z
  have l1 := h.rises (k + 1) (by omega) (by omega)
  rw [Nat.add_sub_cancel] at l1
  have l2 := rises_le h.rises i (k + 1) (by omega)
  rw [e] at l2
  have : x.1 ≠ plAt ps k := by
    intro z
    rw [z] at l2
    unfold leP at *
    exact ne (Prod.ext (by omega) (by omega))
  simpa using this
theorem words_all (h : okRead f ws ps) {k : Nat} (hk : k < ps.length) : wordsAt f ps (plAt ps k) (ps.zip ws) = wordsAt f ps (plAt ps k) ((ps.zip ws).take k) ++ [said f ps (wdAt ws k).own] ++ wordsAt f ps (plAt ps k) ((ps.zip ws).drop (k + 1)) := by
  have e : ps.zip ws = (ps.zip ws).take (k + 1) ++ (ps.zip ws).drop (k + 1) := (List.take_append_drop _ _).symm
  rw [e, wordsAt_app, take_zip h.bk.len hk, wordsAt_app, wordsAt_one, if_pos (by rfl)]
  rw [← take_zip h.bk.len hk, ← e]
theorem words_nob (h : okRead f ws ps) (p : Plc) : ∀ x ∈ wordsAt f ps p (ps.zip ws), nob x := by
  intro x hx
  obtain ⟨y, hy, rfl⟩ := List.mem_map.mp hx
  have := (List.mem_filter.mp hy).1
  exact said_nob (h.clean y.2 (List.of_mem_zip this).2).1
end
end Tl

/-! The pure-value layer: x in a list. -/
namespace PV
open PySem PySem.Spec PyProof.Rows L2
section
variable {X : Cx} {W : Wc} {ρ : Env} {e a b : Expr} {pos : Pos} {C : Ec → Addr} {k : Nat}
theorem cm_inD {d : PyData} {ds : List PyData} (c : Ctx X C W k) (ha : Rv X W ρ a d) (hb : Rv X W ρ b (.list ds)) (sa : SeqAt.shaped d = true) (sb : SeqAt.shaped (.list ds) = true) : Cm X W ρ .In a b (ds.any fun z => PyData.eqv z d) :=
  cm_of (op_inD (by have := c.room.un; omega)) ha hb fun x z H Q h1 h2 q => ⟨d, ds, h1.dp _ _, h2.dp _ _, sa, sb, q⟩
theorem cm_ninD {d : PyData} {ds : List PyData} (c : Ctx X C W k) (ha : Rv X W ρ a d) (hb : Rv X W ρ b (.list ds)) (sa : SeqAt.shaped d = true) (sb : SeqAt.shaped (.list ds) = true) : Cm X W ρ .NotIn a b (!ds.any fun z => PyData.eqv z d) :=
  cm_of (op_notInD (by have := c.room.un; omega)) ha hb fun x z H Q h1 h2 q => ⟨d, ds, h1.dp _ _, h2.dp _ _, sa, sb, q⟩
theorem any_ints (i : Int) (l : List Int) : ((l.map PyData.int).any fun z => PyData.eqv z (.int i)) = decide (i ∈ l) := by
  induction l with
  | nil => rfl
  | cons x l ih =>
    rw [List.map_cons, List.any_cons, ih]
    have : PyData.eqv (.int x) (.int i) = decide (x = i) := by
      simp only [PyData.eqv]
      by_cases h : x = i <;> simp [h]
    rw [this, ← Bool.decide_or, decide_eq_decide, List.mem_cons]
    constructor
    · rintro (h | h)
      · exact .inl h.symm
      · exact .inr h
    · rintro (h | h)
      · exact .inl h.symm
      · exact .inr h
end
end PV

/-! Pages read back: the feet, plain. -/
namespace Tl
open PySem PySem.Spec PyProof.Rows L2 PV
/-- rows by their words -/
def wordy (rows : List Str) (xs : List Str) : Prop := ∃ wss : List (List Str), rows = wss.map (Txt.join (" " : Str)) ∧ (∀ ws ∈ wss, ws ≠ [] ∧ ∀ x ∈ ws, nob x) ∧ wss.flatten = xs
theorem wordy_nil : wordy [] [] := ⟨[], rfl, (fun _ h => nomatch h), rfl⟩
theorem wordy_fill {wide : Nat} {rows xs : List Str} {t : Str} (h : wordy rows xs) (ht : nob t) : wordy (fill1 wide rows t) (xs ++ [t]) := by
  obtain ⟨wss, rfl, h1, rfl⟩ := h
  have new : wordy (wss.map (Txt.join (" " : Str)) ++ [t]) (wss.flatten ++ [t]) := by
    refine ⟨wss ++ [[t]], ?_, fun ws hws => ?_, ?_⟩
    · rw [List.map_append, List.map_cons, List.map_nil, join_one]
    · rcases List.mem_append.mp hws with z | z
      · exact h1 ws z
      · have : ws = [t] := by simpa using z
        subst this
        exact ⟨by simp, fun x hx => by have : x = t := by simpa using hx
                                       subst this; exact ht⟩
    · rw [List.flatten_append]; simp
  unfold fill1
  rw [List.getLast?_map]
  cases e : wss.getLast? with
  | none => exact new
  | some l =>
    dsimp only [Option.map]
    split
    · obtain ⟨pre, rfl⟩ : ∃ pre, wss = pre ++ [l] := by
        obtain ⟨pre, hpre⟩ := List.getLast?_eq_some_iff.mp e
        exact ⟨pre, hpre⟩
      have hl := h1 l (List.mem_append_right _ List.mem_cons_self)
      refine ⟨pre ++ [l ++ [t]], ?_, fun ws hws => ?_, ?_⟩
      · rw [List.map_append, List.map_append, List.length_append, List.length_map]
        simp only [List.map_cons, List.map_nil, List.length_singleton, Nat.add_sub_cancel]
        rw [List.set_append_right _ _ (by simp), List.length_map, Nat.sub_self, List.set_cons_zero, join_snoc _ hl.1]
      · rcases List.mem_append.mp hws with z | z
        · exact h1 ws (List.mem_append_left _ z)
        · have : ws = l ++ [t] := by simpa using z
          subst this
          exact ⟨by simp, fun x hx => by
            rcases List.mem_append.mp hx with y | y
            · exact hl.2 x y
            · have : x = t := by simpa using y
              subst this; exact ht⟩
      · rw [List.flatten_append, List.flatten_append]; simp
    · exact new
theorem wordy_filled {f : Frm} {ps : List Plc} : ∀ (foot : List Say) (rows xs : List Str), wordy rows xs → (∀ s ∈ foot, nobSay s) → wordy ((foot.map (said f ps)).foldl (fill1 f.wide) rows) (xs ++ foot.map (said f ps))
  | [], rows, xs, h, _ => by simpa using h
  | s :: foot, rows, xs, h, hn => by
    rw [List.map_cons, List.foldl_cons]
    have := wordy_filled (f := f) (ps := ps) foot _ _ (wordy_fill (wide := f.wide) h (said_nob (f := f) (ps := ps) (hn s List.mem_cons_self))) fun s' h' => hn s' (List.mem_cons_of_mem _ h')
    rwa [List.append_assoc] at this
theorem wordy_app {a b xs ys : List Str} (h : wordy a xs) (h' : wordy b ys) : wordy (a ++ b) (xs ++ ys) := by
  obtain ⟨w1, rfl, h1, rfl⟩ := h
  obtain ⟨w2, rfl, h2, rfl⟩ := h'
  refine ⟨w1 ++ w2, by rw [List.map_append], fun ws hws => ?_, by rw [List.flatten_append]⟩
  rcases List.mem_append.mp hws with z | z
  · exact h1 ws z
  · exact h2 ws z
def splitAll (rows : List Str) : List Str := (rows.map fun r => Txt.split r (" " : Str)).flatten
theorem wordy_split {rows xs : List Str} (h : wordy rows xs) : splitAll rows = xs := by
  obtain ⟨wss, rfl, h1, rfl⟩ := h
  unfold splitAll
  rw [List.map_map]
  congr 1
  have : ∀ ws ∈ wss, ((fun r => Txt.split r (" " : Str)) ∘ Txt.join (" " : Str)) ws = ws := fun ws hws => split_row (h1 ws hws).1 (h1 ws hws).2
  exact (List.map_congr_left this).trans (List.map_id _)
def dueAt (f : Frm) (ps : List Plc) (g : Nat) (L : List Item) : List Str := L.foldl (fun acc x => if x.1.1 = g then acc ++ x.2.foot.map (said f ps) else acc) []
def manyAt (f : Frm) (ps : List Plc) (g : Nat) (L : List Item) : Nat := L.foldl (fun acc x => if x.1.1 = g then acc + highBy f ps x.2.foot else acc) 0
def rowsAt (g : Nat) (L : List Item) : List Int := L.foldl (fun acc x => if x.1.1 = g then acc ++ [(x.1.2 : Int)] else acc) []
theorem dueAt_snoc (f : Frm) (ps : List Plc) (g : Nat) (L : List Item) (x : Item) : dueAt f ps g (L ++ [x]) = if x.1.1 = g then dueAt f ps g L ++ x.2.foot.map (said f ps) else dueAt f ps g L := by unfold dueAt; rw [List.foldl_append]; rfl
theorem manyAt_snoc (f : Frm) (ps : List Plc) (g : Nat) (L : List Item) (x : Item) : manyAt f ps g (L ++ [x]) = if x.1.1 = g then manyAt f ps g L + highBy f ps x.2.foot else manyAt f ps g L := by unfold manyAt; rw [List.foldl_append]; rfl
theorem rowsAt_snoc (g : Nat) (L : List Item) (x : Item) : rowsAt g (L ++ [x]) = if x.1.1 = g then rowsAt g L ++ [(x.1.2 : Int)] else rowsAt g L := by unfold rowsAt; rw [List.foldl_append]; rfl
theorem feet_wordy {f : Frm} {ps : List Plc} (g : Nat) : ∀ L : List Item, (∀ x ∈ L, ∀ s ∈ x.2.foot, nobSay s) → wordy (feetAt f ps g L) (dueAt f ps g L) := by
  refine snocRec (fun _ => wordy_nil) fun L x ih hL => ?_
  have ih := ih fun y hy => hL y (List.mem_append_left _ hy)
  have hx := hL x (List.mem_append_right _ List.mem_cons_self)
  rw [feetAt_snoc, dueAt_snoc]
  split
  · exact wordy_app ih (by have := wordy_filled (f := f) (ps := ps) x.2.foot [] [] wordy_nil hx; rwa [List.nil_append] at this)
  · exact ih
theorem many_feet {f : Frm} {ps : List Plc} (g : Nat) : ∀ L : List Item, (∀ x ∈ L, highBy f ps x.2.foot = (filled f ps x.2.foot).length) → manyAt f ps g L = (feetAt f ps g L).length := by
  refine snocRec (fun _ => rfl) fun L x ih hL => ?_
  have ih := ih fun y hy => hL y (List.mem_append_left _ hy)
  have hx := hL x (List.mem_append_right _ List.mem_cons_self)
  rw [feetAt_snoc, manyAt_snoc]
  split
  · rw [List.length_append, ih, hx]
  · exact ih
theorem due_len {f : Frm} {ps : List Plc} (g : Nat) : ∀ L : List Item, (∀ x ∈ L, x.2.foot.length ≤ 100) → (dueAt f ps g L).length ≤ 100 * L.length := by
  refine snocRec (fun _ => Nat.zero_le _) fun L x ih hL => ?_
  have ih := ih fun y hy => hL y (List.mem_append_left _ hy)
  have hx := hL x (List.mem_append_right _ List.mem_cons_self)
  rw [dueAt_snoc, List.length_append, List.length_singleton]
  split
  · rw [List.length_append, List.length_map]; omega
  · omega
theorem rows_len (g : Nat) : ∀ L : List Item, (rowsAt g L).length ≤ L.length := by
  refine snocRec (Nat.zero_le _) fun L x ih => ?_
  rw [rowsAt_snoc, List.length_append, List.length_singleton]
  split
  · rw [List.length_append]; simp; omega
  · omega
theorem due_ok' {f : Frm} {ps : List Plc} {n : Nat} (g : Nat) : ∀ L : List Item, (∀ x ∈ L, ∀ s ∈ x.2.foot, okSay n s) → ∀ x ∈ dueAt f ps g L, PyData.strOk x = true := by
  refine snocRec (fun _ _ h => nomatch h) fun L x ih hL => ?_
  have ih := ih fun y hy => hL y (List.mem_append_left _ hy)
  have hx := hL x (List.mem_append_right _ List.mem_cons_self)
  rw [dueAt_snoc]
  split
  · intro y hy
    rcases List.mem_append.mp hy with z | z
    · exact ih y z
    · obtain ⟨s, hs, rfl⟩ := List.mem_map.mp z
      exact said_ok (hx s hs)
  · exact ih
/-- a row in which no word of the page stands -/
theorem row_empty {f : Frm} {ps : List Plc} (g r : Nat) : ∀ L : List Item, (r : Int) ∉ rowsAt g L → bodyAt f ps (g, r) L = none := by
  refine snocRec (fun _ => rfl) fun L x ih h => ?_
  rw [rowsAt_snoc] at h
  rw [bodyAt_snoc]
  by_cases e : x.1.1 = g
  · rw [if_pos e] at h
    have h1 : (r : Int) ∉ rowsAt g L := fun z => h (List.mem_append_left _ z)
    have h2 : x.1 ≠ (g, r) := fun z => h (List.mem_append_right _ (by rw [z]; exact List.mem_cons_self))
    rw [if_neg h2]
    exact ih h1
  · rw [if_neg e] at h
    rw [if_neg (fun z => e (by rw [z]))]
    exact ih h
/-- what is wanted besides, of the feet -/
def footFit (f : Frm) (ws : List Wrd) (ps : List Plc) : Prop := ∀ w ∈ ws, highBy f ps w.foot = (filled f ps w.foot).length
theorem page_drop {f : Frm} {ws : List Wrd} {ps : List Plc} (h : okRead f ws ps) (g : Nat) : (pageAt f ps (ps.zip ws) g).2.drop (f.high - (feetAt f ps g (ps.zip ws)).length) = feetAt f ps g (ps.zip ws) := by
  unfold pageAt
  rw [List.drop_append_of_le_length (by simp), List.drop_of_length_le (by simp), List.nil_append]
end Tl

/-! Pages read back: the feet, walked. -/
namespace Tl
open PySem PySem.Spec PyProof.Rows L2 PV
def strT (xs : List Str) : T := .lst none ((xs.map PyData.str).map T.fz)
theorem strT_er (xs : List Str) : (strT xs).er = .list (xs.map PyData.str) := by unfold strT; rw [er_lst, map_fz]
theorem ints_cl (l : List Int) : cl 1 (.list (l.map PyData.int)) = true := cl_list fun _ _ => rfl
section
variable {P : Program} {w : World} {K : PySem.W.Frag} {mg : Str → Option Value} {base : Heap} {C : Ec → Addr}
abbrev insFt (i : InBk) : List Slot := [fz (bkD (i.1, i.2.1)), fz (.list (i.2.2.map plD)), fz (.list ((pagesOf i.1 i.2.1 i.2.2).map pgD))]
def envF (fm : Frm) (ws : List Wrd) (ps : List Plc) (a b c d e f g h i j : Option Slot) : PV.Env := [some (fz (bkD (fm, ws))), some (fz (.list (ps.map plD))), some (fz (.list ((pagesOf fm ws ps).map pgD))), some (fz (frD fm)), some (fz (.list (ws.map wdD))), a, b, c, d, e, f, g, h, i, j]
abbrev C_feet_read (P : Program) (w : World) (K : PySem.W.Frag) (mg : Str → Option Value) (base : Heap) (C : Ec → Addr) := Callee P w K mg base 3 "_law_feet_read" (spP K C 3 insFt (fun i => okRead i.1 i.2.1 i.2.2 ∧ footFit i.1 i.2.1 i.2.2) (fun i => is (.ok (fz (.bool true)))))
theorem ok_feet_read (Bt : Blt mg) (G_high_by : C_high_by P w K mg base C) (G_truly : C_truly P w K mg base C) (D : Df K mg "_law_feet_read" s_law_feet_read) : C_feet_read P w K mg base C := by
  refine callee_of D sc_law_feet_read (fun _ _ _ _ _ _ us hl => match us, hl with | [_, _, _], _ => rfl) (fun f cdv A outer s H E c i hi => ?_)
  obtain ⟨fm, ws, ps⟩ := i
  obtain ⟨hi, hff⟩ := hi
  have hi : okRead fm ws ps := hi
  have hff : footFit fm ws ps := hff
  have hb := hi.bk
  have hl := hb.len
  have h100 := hb.pls.1
  have hhigh := hb.frm.2.1
  have htru := read_tru hi
  have hlen : (pagesOf fm ws ps).length = manyOf ps := by simp [pagesOf]
  have hml : manyOf ps ≤ 1001 := by
    unfold manyOf
    cases e : ps.getLast? with
    | none => exact Nat.zero_le _
    | some l =>
      obtain ⟨k, hk⟩ := List.mem_iff_getElem?.mp (List.mem_of_getLast? e)
      have hk' := plAt_get (List.getElem?_eq_some_iff.mp hk).1
      rw [hk] at hk'
      have := (hb.pls.2 k).1
      rw [← Option.some.inj hk'] at this
      show l.1 + 1 ≤ 1001
      omega
  show Sxs _ _ _ [some (fz (bkD (fm, ws))), some (fz (.list (ps.map plD))), some (fz (.list ((pagesOf fm ws ps).map pgD))), none, none, none, none, none, none, none, none, none, none, none, none] _
  refine sxs_unpack (tg_tup c.calm (tgs_cons 3 c.nd (tgs_cons 4 c.nd tgs_nil))) (ev_var 0 rfl) rfl ?_
  refine sxs_for c (fun g ρ => ρ = envF fm ws ps none none none none none none none none none none)
    (iv_range1 Bt ((ev_len Bt (Bv.bw (Ev.bv (ev_var 2 rfl)))).to (e := .int ((manyOf ps : Nat) : Int)) (by rw [List.length_map, hlen])) (by omega) (by omega)) (tg_name 5 c.nd) rfl (fun g d ρ hd hP => ⟨⟨(fun h => nomatch h), rfl⟩, ?_⟩) (fun ρ hP => ?_)
  · subst hP
    obtain ⟨hg, rfl⟩ := nums_of hd
    have hg : g < manyOf ps := by omega
    have hpg := page_get (f := fm) (ws := ws) hg
    have hz : (ps.zip ws).length ≤ 100 := by rw [List.length_zip]; omega
    have hwrd : ∀ x ∈ ps.zip ws, okWrd ps.length x.2 := fun x hx => hb.wrd x.2 (List.of_mem_zip hx).2
    have hmany := many_feet (f := fm) (ps := ps) g (ps.zip ws) fun x hx => hff x.2 (List.of_mem_zip hx).2
    have hspl := wordy_split (feet_wordy (f := fm) (ps := ps) g (ps.zip ws) fun x hx => (hi.clean x.2 (List.of_mem_zip hx).2).2)
    have hdl := due_len (f := fm) (ps := ps) g (ps.zip ws) fun x hx => (hwrd x hx).foot.1
    have hdok := due_ok' (f := fm) (ps := ps) (n := ps.length) g (ps.zip ws) fun x hx => (hwrd x hx).foot.2
    have hfit := hi.feet g
    have hfok := feetAt_ok hb.frm hb.pls g (ps.zip ws) hwrd
    have hdrop := page_drop hi g
    have hhg := page_high hi g
    show Sxs _ _ _ (envF fm ws ps (some (fz (.int g))) none none none none none none none none none) _
    refine sxs_setT 6 (t_lst ta_nil) ?_ c.nd
    refine sxs_set 7 ev_int ?_ c.nd
    refine sxs_setF 8 (fr_lst eva_nil) ?_ c.nd
    refine sxs_for c (fun k ρ => ρ = envF fm ws ps (some (fz (.int g))) (some (tr (strT (dueAt fm ps g ((ps.zip ws).take k))))) (some (fz (.int ((manyAt fm ps g ((ps.zip ws).take k) : Nat) : Int)))) (some (ow none ((rowsAt g ((ps.zip ws).take k)).map .int))) none none none none none none)
      (iv_enum Bt (ev_var 4 rfl)) (tg_tup c.calm (tgs_cons 9 c.nd (tgs_cons 10 c.nd tgs_nil))) rfl (fun k d ρ hd hP => ?_) (fun ρ hP => ?_)
    · subst hP
      obtain ⟨e, he, rfl⟩ := enums_of hd
      rw [List.getElem?_map] at he
      obtain ⟨wd, hw, rfl⟩ := Option.map_eq_some_iff.mp he
      have hkw : k < ws.length := (List.getElem?_eq_some_iff.mp hw).1
      have hkp : k < ps.length := hl ▸ hkw
      have hwd := hb.wrd wd (List.mem_of_getElem? hw)
      have hp := plAt_get hkp
      generalize plAt ps k = p at hp
      rw [take_zip_succ hp hw]
      have hd1 := due_len (f := fm) (ps := ps) g ((ps.zip ws).take k) fun x hx => (hwrd x (List.mem_of_mem_take hx)).foot.1
      have hr1 := rows_len g ((ps.zip ws).take k)
      have hz1 : ((ps.zip ws).take k).length ≤ 100 := by rw [List.length_take]; omega
      generalize (ps.zip ws).take k = L at hd1 hr1 hz1
      refine ⟨⟨fun _ => ⟨_, rfl⟩, rfl⟩, ?_⟩
      show Sxs _ _ _ (envF fm ws ps (some (fz (.int g))) (some (tr (strT (dueAt fm ps g L)))) (some (fz (.int ((manyAt fm ps g L : Nat) : Int)))) (some (ow none ((rowsAt g L).map .int))) (some (fz (.int k))) (some (fz (wdD wd))) none none none none) _
      refine sxs_if (tst_cm (cm_eq (i := (p.1 : Int)) (ev_ixT (ev_ixL (Bv.bw (Ev.bv (ev_var 1 rfl))) (ev_var 9 rfl) (atI_map plD hp)) ev_int rfl) (ev_var 5 rfl))) (fun h => ?_) (fun h => ?_)
      · have h : p.1 = g := by have := of_decide_eq_true h; omega
        refine sxs_set 7 ((ev_add (ev_var 7 rfl) (ev_call c G_high_by (fm, wd.foot, ps) ⟨hb.frm, hb.pls, hwd.foot.1, hwd.foot.2⟩ (fun _ h => h) (as_cons (Ev.s (ev_var 3 rfl)) (as_cons (Ev.s (ev_ixT (ev_var 10 rfl) ev_int rfl)) (as_cons (Ev.s (ev_var 1 rfl)) as_nil))))).to (e := .int ((manyAt fm ps g (L ++ [(p, wd)]) : Nat) : Int)) (by rw [manyAt_snoc, if_pos (by exact h), Int.natCast_add])) ?_ c.nd
        refine sxs_extendE (ds := (wd.foot.map (said fm ps)).map PyData.str) (strT (dueAt fm ps g (L ++ [(p, wd)]))) 6 rfl (nd_var 6 rfl) rfl (Fr.bv (Fr.to (fr_lc (ks := ((wd.foot.map (said fm ps)).map PyData.str).map some) [("one", 14)] c (iv_list (ev_ixT (ev_var 10 rfl) ev_int rfl)) (fun s H Cc cl fp => have cb := c.blk s H Cc cl fp; tg_name 14 cb.nd) (szl (by rw [List.length_map]; have := hwd.foot.1; omega)) (by simp) (fun i d r hd hr => ?_)) (keep_all _))) (szm (by simp only [List.length_map]; have := hwd.foot.1; omega)) (by rw [dueAt_snoc, if_pos (by exact h)]; unfold strT; rw [List.map_append, List.map_append]; rfl) ?_
        · rw [List.getElem?_map] at hd
          obtain ⟨x, hx, rfl⟩ := Option.map_eq_some_iff.mp hd
          rw [List.getElem?_map, List.getElem?_map, List.getElem?_map, hx] at hr
          obtain rfl := (Option.some.inj hr).symm
          refine ⟨⟨(fun h => nomatch h), rfl⟩, true, rfl, (fun h => nomatch h), fun _ => ⟨_, rfl, fun s H Cc cl fp => ?_⟩⟩
          exact (ev_call (c.blk s H Cc cl fp) G_truly ((fm, x, ps), pagesOf fm ws ps) ⟨⟨hb.frm, hb.pls, hwd.foot.2 x (List.mem_of_getElem? hx)⟩, htru⟩ (fun _ h => h) (as_cons (Ev.s (ev_var 3 rfl)) (as_cons (Ev.s (ev_var 14 rfl)) (as_cons (Ev.s (ev_var 1 rfl)) (as_cons (Ev.s (ev_var 2 rfl)) as_nil)))))
        refine sxs_append 8 rfl (ev_ixT (ev_ixL (Bv.bw (Ev.bv (ev_var 1 rfl))) (ev_var 9 rfl) (atI_map plD hp)) ev_int rfl) (szl' (by rw [List.length_map]; omega)) ?_
        refine sxs_nil ?_
        refine sxs_nil ⟨_, Wk.of ?_, rfl⟩
        have e : (rowsAt g L).map PyData.int ++ [.int (p.2 : Int)] = (rowsAt g (L ++ [(p, wd)])).map PyData.int := by rw [rowsAt_snoc, if_pos (by exact h), List.map_append]; rfl
        rw [← e]
        exact wkl_some rfl (wkl_some rfl (wkl_some rfl (wkl_some rfl (wkl_some rfl (wkl_some rfl (wkl_some rfl (wkl_some rfl (wkl_some rfl (wkl_none (wkl_none (wkl_none (wkl_none (wkl_none (wkl_none wkl_nil))))))))))))))
      · have h : ¬ p.1 = g := by have := of_decide_eq_false h; omega
        refine sxs_nil ?_
        refine sxs_nil ⟨_, Wk.of ?_, rfl⟩
        rw [manyAt_snoc, dueAt_snoc, rowsAt_snoc, if_neg (by exact h), if_neg (by exact h), if_neg (by exact h)]
        exact wkl_some rfl (wkl_some rfl (wkl_some rfl (wkl_some rfl (wkl_some rfl (wkl_some rfl (wkl_some rfl (wkl_some rfl (wkl_some rfl (wkl_none (wkl_none (wkl_none (wkl_none (wkl_none (wkl_none wkl_nil))))))))))))))
    · subst hP
      have e : (ps.zip ws).take (enums 0 (ws.map wdD)).length = ps.zip ws := by
        rw [enums_length, List.length_map]
        exact List.take_of_length_le (by rw [List.length_zip]; omega)
      rw [e, hmany]
      have hre := row_empty (f := fm) (ps := ps) g
      have hrow2 : ∀ r, r < fm.high - (feetAt fm ps g (ps.zip ws)).length → (pageAt fm ps (ps.zip ws) g).2[r]? = some ((bodyAt fm ps (g, r) (ps.zip ws)).getD ("" : Str)) := fun r hr => by
        unfold pageAt
        rw [List.getElem?_append_left (by simpa using hr), List.getElem?_map, List.getElem?_range hr]
        rfl
      generalize hft : feetAt fm ps g (ps.zip ws) = ft at hspl hfit hfok hdrop hmany hrow2
      generalize hdu : dueAt fm ps g (ps.zip ws) = du at hspl hdl hdok
      refine sxs_set 11 (ev_ixT (ev_ixL (Bv.bw (Ev.bv (ev_var 2 rfl))) (ev_var 5 rfl) (atI_map pgD hpg)) ev_int rfl) ?_ c.nd
      refine sxs_setT 12 (t_lst ta_nil) ?_ c.nd
      have hcut : cutD ((pageAt fm ps (ps.zip ws) g).2.map PyData.str) (some ((fm.high - ft.length : Nat) : Int)) none = ft.map PyData.str := by
        rw [cut_map, HT.sIx_none, HT.sIx_nat, hhg, Nat.min_eq_left (by omega), hdrop, List.take_of_length_le (by omega)]
      refine sxs_forL PyData.str ft (fun xs : List Str => envF fm ws ps (some (fz (.int g))) (some (tr (strT du))) (some (fz (.int ((ft.length : Nat) : Int)))) (some (ow none ((rowsAt g (ps.zip ws)).map .int))) none none (some (fz (.list ((pageAt fm ps (ps.zip ws) g).2.map .str)))) (some (tr (strT xs))) none none) (fun xs ys => xs ++ splitAll ys = du ∧ ∀ y ∈ ys, okRow y) []
        c (iv_list (Fr.ev (Fr.to (fr_slice (Bv.bw (Ev.bv (ev_var 11 rfl))) (evo ((ev_sub (ev_ixT (ev_var 3 rfl) ev_int rfl) (ev_var 7 rfl)).to (e := .int ((fm.high - ft.length : Nat) : Int)) (by congr 1; omega))) evo_n) hcut))) (tg_name 13 c.nd) (Wk.refl _) ⟨hspl, hfok.1⟩ (fun xs y ys hR => ⟨⟨(fun h => nomatch h), rfl⟩, ?_⟩) (fun xs hR => ?_)
      · obtain ⟨hR, hok⟩ := hR
        have hy := (hok y List.mem_cons_self).2
        have hok' := fun y' h' => hok y' (List.mem_cons_of_mem _ h')
        have hsp : splitAll (y :: ys) = Txt.split y (" " : Str) ++ splitAll ys := by unfold splitAll; rw [List.map_cons, List.flatten_cons]
        rw [hsp, ← List.append_assoc] at hR
        have hlen2 : xs.length + (Txt.split y (" " : Str)).length ≤ du.length := by rw [← hR, List.length_append, List.length_append]; omega
        show Sxs _ _ _ (envF fm ws ps (some (fz (.int g))) (some (tr (strT du))) (some (fz (.int ((ft.length : Nat) : Int)))) (some (ow none ((rowsAt g (ps.zip ws)).map .int))) none none (some (fz (.list ((pageAt fm ps (ps.zip ws) g).2.map .str)))) (some (tr (strT xs))) (some (fz (.str y))) none) _
        refine sxs_extendE (strT (xs ++ Txt.split y (" " : Str))) 12 rfl (nd_var 12 rfl) rfl (Fr.bv (fr_split (ev_var 13 rfl) ev_str (by decide +kernel) (szm (by omega)))) (szm (by simp only [List.length_map]; omega)) (by unfold strT; rw [List.map_append, List.map_append]; rfl) ?_
        refine sxs_nil ⟨_, Wk.of ?_, xs ++ Txt.split y (" " : Str), rfl, hR, hok'⟩
        exact wkl_some rfl (wkl_some rfl (wkl_some rfl (wkl_some rfl (wkl_some rfl (wkl_some rfl (wkl_some rfl (wkl_some rfl (wkl_some rfl (wkl_none (wkl_none (wkl_some rfl (wkl_some rfl (wkl_none (wkl_none wkl_nil))))))))))))))
      · obtain ⟨hR, _⟩ := hR
        have hxs : xs = du := by
          have : splitAll [] = [] := rfl
          rw [this, List.append_nil] at hR
          exact hR
        subst hxs
        have hcl := strs_cl hdok
        refine sxs_if (t := false) ((tst_cm (cm_neD c ((rv_tr 12 rfl).to (strT_er xs)) ((rv_tr 6 rfl).to (strT_er xs)) (cl_shaped hcl) (cl_shaped hcl))).to (by rw [cl_same hcl rfl]; rfl)) (fun h => nomatch h) (fun h => ?_)
        refine sxs_nil ?_
        refine sxs_for c (fun r ρ => ρ = envF fm ws ps (some (fz (.int g))) (some (tr (strT xs))) (some (fz (.int ((ft.length : Nat) : Int)))) (some (ow none ((rowsAt g (ps.zip ws)).map .int))) none none (some (fz (.list ((pageAt fm ps (ps.zip ws) g).2.map .str)))) (some (tr (strT xs))) none none)
          (iv_range1 Bt ((ev_sub (ev_ixT (ev_var 3 rfl) ev_int rfl) (ev_var 7 rfl)).to (e := .int ((fm.high - ft.length : Nat) : Int)) (by congr 1; omega)) (by omega) (by omega)) (tg_name 13 c.nd) rfl (fun r d ρ hd hP => ⟨⟨(fun h => nomatch h), rfl⟩, ?_⟩) (fun ρ hP => ?_)
        · subst hP
          obtain ⟨hr, rfl⟩ := nums_of hd
          have hr : r < fm.high - ft.length := by omega
          show Sxs _ _ _ (envF fm ws ps (some (fz (.int g))) (some (tr (strT xs))) (some (fz (.int ((ft.length : Nat) : Int)))) (some (ow none ((rowsAt g (ps.zip ws)).map .int))) none none (some (fz (.list ((pageAt fm ps (ps.zip ws) g).2.map .str)))) (some (tr (strT xs))) (some (fz (.int r))) none) _
          refine sxs_if (t := false) (tst_and2 (p := !decide ((r : Int) ∈ rowsAt g (ps.zip ws))) (q := false) ((tst_cm (cm_ninD c (Ev.rv (ev_var 13 rfl)) (Bv.rv (bv_var 8 rfl)) (cl_shaped (n := 1) rfl) (cl_shaped (ints_cl _)))).to (by rw [PV.any_ints])) (fun hp => (tst_cm (cm_neS (ev_ixL (Bv.bw (Ev.bv (ev_var 11 rfl))) (ev_var 13 rfl) (atI_map PyData.str (hrow2 r hr))) ev_str)).to (by
            have hp : (r : Int) ∉ rowsAt g (ps.zip ws) := by simpa using hp
            rw [hre r _ hp]; rfl)) (by rw [Bool.and_false])) (fun h => nomatch h) (fun h => ?_)
          refine sxs_nil ?_
          refine sxs_nil ⟨_, Wk.of ?_, rfl⟩
          exact wkl_some rfl (wkl_some rfl (wkl_some rfl (wkl_some rfl (wkl_some rfl (wkl_some rfl (wkl_some rfl (wkl_some rfl (wkl_some rfl (wkl_none (wkl_none (wkl_some rfl (wkl_some rfl (wkl_none (wkl_none wkl_nil))))))))))))))
        · subst hP
          refine sxs_nil ⟨_, Wk.of ?_, rfl⟩
          exact wkl_some rfl (wkl_some rfl (wkl_some rfl (wkl_some rfl (wkl_some rfl (wkl_none (wkl_none (wkl_none (wkl_none (wkl_none (wkl_none (wkl_none (wkl_none (wkl_none (wkl_none wkl_nil))))))))))))))
  · subst hP
    exact sxs_ret ev_bl rfl
end
end Tl

/-! The drawn laying is one to be read back. -/
namespace Tl
open PySem PySem.Spec PyProof.Rows L2 PV
theorem rows_eq (ns : List Int) (most k : Nat) (hk : k < (layN ns most).length) : rowsW (formN ns most) (layN ns most) (wordsN ns most) k = rowsN ns most k := by
  have h := words_get (ns := ns) (most := most) (wdAt_get (ws := wordsN ns most) (k := k) (by rw [words_len]; exact hk))
  unfold rowsW rowsN
  rw [h.2]
  rfl
theorem lay_risesP (ns : List Int) (most : Nat) : risesP (layN ns most) := fun k h0 hk => lay_rises h0 hk
theorem signs_nob (n size : Nat) : nob (signsS n size) := by
  intro h
  obtain ⟨k, _, e⟩ := List.mem_map.mp (show 32 ∈ (List.range size).map fun k => sgAt ((n + k * (1 + n / 93 % 92)) % 93) from h)
  have := sgAt_lt (i := (n + k * (1 + n / 93 % 92)) % 93) (Nat.mod_lt _ (by decide))
  omega
theorem some_nob (n many : Nat) (big : Bool) : nobSay (someS n many big) := by
  unfold someS
  split
  · trivial
  · split
    · trivial
    · exact signs_nob _ _
theorem drawn_read {ns : List Int} {most : Nat} (hm : most ≤ 40) : okRead (formN ns most) (wordsN ns most) (layN ns most) := by
  refine ⟨book_ok hm, lay_risesP ns most, fun k hk => ?_, fun w hw => ?_⟩
  · have h1 := feet_high hm hk
    have h2 : stH (layN ns most) (rowsW (formN ns most) (layN ns most) (wordsN ns most)) k ≤ stH (layN ns most) (rowsN ns most) k := stH_mono k fun j hj => by rw [rows_eq ns most j (by omega)]; exact Nat.le_refl _
    omega
  · obtain ⟨k, hk, h1, h2⟩ := words_part hw
    obtain ⟨⟨m, e⟩, h3⟩ := part_own _ _ _ _ _ (pt_mem hk)
    refine ⟨by rw [h1, e]; exact some_nob _ _ _, fun s hs => ?_⟩
    obtain ⟨m, e⟩ := h3 s (h2 ▸ hs)
    rw [e]; exact some_nob _ _ _
theorem max_many {ps : List Plc} (h : risesP ps) : ∀ m' : Int, m' ∈ ((0 : Int) :: ps.map fun p => (p.1 : Int) + 1) → (∀ y, y ∈ ((0 : Int) :: ps.map fun p => (p.1 : Int) + 1) → y ≤ m') → m' = ((manyOf ps : Nat) : Int) := by
  intro m' hm hy
  have hle : m' ≤ manyOf ps := by
    rcases List.mem_cons.mp hm with e | e
    · subst e; omega
    · obtain ⟨p, hp, rfl⟩ := List.mem_map.mp e
      obtain ⟨k, hk⟩ := List.mem_iff_getElem?.mp hp
      have hlt := (List.getElem?_eq_some_iff.mp hk).1
      have e2 := Option.some.inj ((plAt_get hlt).symm.trans hk)
      have := rises_page h hlt
      rw [e2] at this
      omega
  have hge : (manyOf ps : Int) ≤ m' := by
    unfold manyOf
    cases e : ps.getLast? with
    | none => exact hy 0 List.mem_cons_self
    | some l =>
      have := hy ((l.1 : Int) + 1) (List.mem_cons_of_mem _ (List.mem_map.mpr ⟨l, List.mem_of_getLast? e, rfl⟩))
      show (((l.1 + 1 : Nat)) : Int) ≤ m'
      omega
  omega
theorem many_le0 {ps : List Plc} (h : okPls ps) : manyOf ps ≤ 1001 := by
  unfold manyOf
  cases e : ps.getLast? with
  | none => exact Nat.zero_le _
  | some l =>
    obtain ⟨k, hk⟩ := List.mem_iff_getElem?.mp (List.mem_of_getLast? e)
    have hk' := plAt_get (List.getElem?_eq_some_iff.mp hk).1
    rw [hk] at hk'
    have := (h.2 k).1
    rw [← Option.some.inj hk'] at this
    show l.1 + 1 ≤ 1001
    omega
theorem pages_len (f : Frm) (ws : List Wrd) (ps : List Plc) : (pagesOf f ws ps).length = manyOf ps := by simp [pagesOf]
end Tl

/-! Pages read back: how wide the rows are. -/
namespace Tl
open PySem PySem.Spec PyProof.Rows L2 PV
structure okWide (f : Frm) (ws : List Wrd) (ps : List Plc) : Prop where
  row : ∀ k, k < ps.length → stW ps (ownW f ps ws) k ≤ f.wide
  foot : ∀ w ∈ ws, ∀ s ∈ w.foot, (said f ps s).length ≤ f.wide
section
variable {f : Frm} {ws : List Wrd} {ps : List Plc}
theorem body_after (hl : ws.length = ps.length) {p : Plc} {k : Nat} (hg : ∀ j, k < j → j < ps.length → plAt ps j ≠ p) : ∀ d, k + 1 + d ≤ ps.length → bodyAt f ps p ((ps.zip ws).take (k + 1 + d)) = bodyAt f ps p ((ps.zip ws).take (k + 1))
  | 0, _ => rfl
  | d + 1, hd => by
    have ih := body_after hl hg d (by omega)
    rw [show k + 1 + (d + 1) = (k + 1 + d) + 1 by omega, take_zip hl (by omega), bodyAt_snoc, if_neg (hg _ (by omega) (by omega)), ih]
theorem body_none (hl : ws.length = ps.length) {p : Plc} (hg : ∀ j, j < ps.length → plAt ps j ≠ p) : ∀ d, d ≤ ps.length → bodyAt f ps p ((ps.zip ws).take d) = none
  | 0, _ => rfl
  | d + 1, hd => by rw [take_zip hl (by omega), bodyAt_snoc, if_neg (hg _ (by omega)), body_none hl hg d (by omega)]
theorem body_wide (hl : ws.length = ps.length) (h : risesP ps) (hw : okWide f ws ps) (p : Plc) : ∀ t, bodyAt f ps p (ps.zip ws) = some t → t.length ≤ f.wide := by
  intro t ht
  rcases last_on ps (fun q => decide (q = p)) with hn | ⟨k, hk, h1, h2⟩
  · have := body_none (f := f) hl (p := p) (fun j hj => by simpa using hn j hj) ps.length (Nat.le_refl _)
    rw [zip_all hl, ht] at this
    cases this
  · have h1 : plAt ps k = p := by simpa using h1
    have h2 : ∀ j, k < j → j < ps.length → plAt ps j ≠ p := fun j a b => by simpa using h2 j a b
    have a := body_after (f := f) hl h2 (ps.length - (k + 1)) (by omega)
    rw [show k + 1 + (ps.length - (k + 1)) = ps.length by omega, zip_all hl, ht] at a
    have b := body_upto (f := f) hl h k hk p (.inr ⟨by rw [h1], by rw [h1]; exact Nat.le_refl _⟩)
    rw [← a] at b
    rw [b.2]
    exact hw.row k hk
theorem fill1_wide {wide : Nat} {rows : List Str} {t : Str} (h : ∀ r ∈ rows, r.length ≤ wide) (ht : t.length ≤ wide) : ∀ r ∈ fill1 wide rows t, r.length ≤ wide := by
  have app : ∀ r ∈ rows ++ [t], r.length ≤ wide := fun r hr => by
    rcases List.mem_append.mp hr with z | z
    · exact h r z
    · have : r = t := by simpa using z
      subst this; exact ht
  unfold fill1
  cases e : rows.getLast? with
  | none => exact app
  | some l =>
    dsimp only
    split
    · rename_i hw
      intro r hr
      rcases List.mem_or_eq_of_mem_set hr with z | z
      · exact h r z
      · subst z
        rw [app_size, app_size]
        exact hw
    · exact app
theorem filled_wide {foot : List Say} (hs : ∀ s ∈ foot, (said f ps s).length ≤ f.wide) : ∀ r ∈ filled f ps foot, r.length ≤ f.wide := by
  have key : ∀ (foot : List Say) (rows : List Str), (∀ s ∈ foot, (said f ps s).length ≤ f.wide) → (∀ r ∈ rows, r.length ≤ f.wide) → ∀ r ∈ (foot.map (said f ps)).foldl (fill1 f.wide) rows, r.length ≤ f.wide := by
    intro foot
    induction foot with
    | nil => intro rows _ h; exact h
    | cons s foot ih => intro rows hs h; exact ih _ (fun s' h' => hs s' (List.mem_cons_of_mem _ h')) (fill1_wide h (hs s List.mem_cons_self))
  exact key foot [] hs (fun _ h => nomatch h)
theorem feet_wide (g : Nat) : ∀ L : List Item, (∀ x ∈ L, ∀ s ∈ x.2.foot, (said f ps s).length ≤ f.wide) → ∀ r ∈ feetAt f ps g L, r.length ≤ f.wide := by
  refine snocRec (fun _ _ h => nomatch h) fun L x ih hL => ?_
  have ih := ih fun y hy => hL y (List.mem_append_left _ hy)
  have hx := hL x (List.mem_append_right _ List.mem_cons_self)
  rw [feetAt_snoc]
  split
  · intro r hr
    rcases List.mem_append.mp hr with z | z
    · exact ih r z
    · exact filled_wide hx r z
  · exact ih
theorem page_wide (h : okRead f ws ps) (hw : okWide f ws ps) (g : Nat) : ∀ r ∈ (pageAt f ps (ps.zip ws) g).2, r.length ≤ f.wide := by
  intro r hr
  rcases List.mem_append.mp hr with z | z
  · obtain ⟨k, _, rfl⟩ := List.mem_map.mp z
    cases e : bodyAt f ps (g, k) (ps.zip ws) with
    | none => exact Nat.zero_le _
    | some t => exact body_wide h.bk.len h.rises hw (g, k) t e
  · exact feet_wide g _ (fun x hx => hw.foot x.2 (List.of_mem_zip hx).2) r z
theorem foot_fit (h : okRead f ws ps) (hw : okWide f ws ps) : footFit f ws ps := by
  intro w hww
  obtain ⟨k, hk⟩ := List.mem_iff_getElem?.mp hww
  have hlt := (List.getElem?_eq_some_iff.mp hk).1
  have hkp : k < ps.length := by have := h.bk.len; omega
  have e : wdAt ws k = w := Option.some.inj ((wdAt_get hlt).symm.trans hk)
  have h1 := h.fit k hkp
  have h2 := own_stH ps (rowsW f ps ws) k
  have h3 : rowsW f ps ws k = (filled f ps w.foot).length := by unfold rowsW; rw [e]
  unfold highBy
  rw [highGo_grow _ _ _ (fun x hx => by obtain ⟨s, hs, rfl⟩ := List.mem_map.mp hx; exact hw.foot w hww s hs), ← filled_len]
  omega
end
theorem drawn_wide {ns : List Int} {most : Nat} (hm : most ≤ 40) : okWide (formN ns most) (wordsN ns most) (layN ns most) := by
  refine ⟨fun k hk => ?_, fun w hw s hs => ?_⟩
  · refine Nat.le_trans (stW_mono k fun j hj => ?_) (row_wide hk)
    have h := words_get (ns := ns) (most := most) (wdAt_get (ws := wordsN ns most) (k := j) (by rw [words_len]; omega))
    unfold ownW ownN
    rw [h.2]
    exact Nat.le_refl _
  · obtain ⟨k, hk, h1, h2⟩ := words_part hw
    exact Nat.le_trans (said_le1 s) (foot_wide hk s (h2 ▸ hs))
end Tl

/-! Bounds and raises, plain. -/
namespace Tl
open PySem PySem.Spec PyProof.Rows L2 PV
def ltP (a b : Plc) : Prop := a.1 < b.1 ∨ (a.1 = b.1 ∧ a.2 < b.2)
instance (a b : Plc) : Decidable (ltP a b) := by unfold ltP; infer_instance
theorem leP_refl (a : Plc) : leP a a := .inr ⟨rfl, Nat.le_refl _⟩
theorem not_lt_le {a b : Plc} : ¬ ltP a b ↔ leP b a := by unfold ltP leP; omega
theorem lt_le {a b : Plc} (h : ltP a b) : leP a b := by unfold ltP at h; unfold leP; omega
theorem leP_anti {a b : Plc} (h : leP a b) (h' : leP b a) : a = b := by unfold leP at *; exact Prod.ext (by omega) (by omega)
theorem lt_of_le_ne {a b : Plc} (h : leP a b) (h' : a ≠ b) : ltP a b := by
  by_cases z : ltP a b
  · exact z
  · exact absurd (leP_anti h (not_lt_le.mp z)) h'
def laterP (a b : Plc) : Plc := if ltP a b then b else a
theorem later_l (a b : Plc) : leP a (laterP a b) := by unfold laterP; split; exact lt_le ‹_›; exact leP_refl a
theorem later_r (a b : Plc) : leP b (laterP a b) := by unfold laterP; split; exact leP_refl b; exact not_lt_le.mp ‹_›
theorem later_le {a b c : Plc} (h : leP a c) (h' : leP b c) : leP (laterP a b) c := by unfold laterP; split; exact h'; exact h
def rowsOn (f : Frm) (p : Plc) (many : Nat) : Plc := if f.high ≤ p.2 + many then (p.1 + 1, 0) else (p.1, p.2 + many)
def oddB (f : Frm) (page : Nat) : Bool := decide ((f.first + page) % 2 = 1)
def behindP (f : Frm) (p : Plc) (lead : Nat) : Plc := if lead = 0 then p else if lead < 3 then rowsOn f p lead else if lead = 4 ∧ oddB f (p.1 + 1) = false then (p.1 + 2, 0) else (p.1 + 1, 0)
def firstFrom (f : Frm) (p : Plc) (lead : Nat) : Plc := if lead = 4 ∧ oddB f p.1 = false then (p.1 + 1, 0) else p
theorem rowsOn_mono {f : Frm} {p q : Plc} {n : Nat} (hp : p.2 < f.high) (hq : q.2 < f.high) (h : leP p q) : leP (rowsOn f p n) (rowsOn f q n) := by
  unfold leP rowsOn at *
  split <;> split <;> (try dsimp only) <;> omega
theorem behind_mono {f : Frm} {p q : Plc} {lead : Nat} (hp : p.2 < f.high) (hq : q.2 < f.high) (h : leP p q) : leP (behindP f p lead) (behindP f q lead) := by
  unfold behindP
  split
  · exact h
  · split
    · exact rowsOn_mono hp hq h
    · unfold oddB leP at *
      simp only [decide_eq_false_iff_not]
      split <;> split <;> (try dsimp only) <;> omega
theorem behind_ge {f : Frm} {p : Plc} (lead : Nat) (hp : p.2 < f.high) : leP p (behindP f p lead) := by
  unfold behindP rowsOn leP
  split
  · omega
  · split
    · split <;> (try dsimp only) <;> omega
    · split <;> (try dsimp only) <;> omega
theorem first_mono {f : Frm} {p q : Plc} {lead : Nat} (h : leP p q) : leP (firstFrom f p lead) (firstFrom f q lead) := by
  unfold firstFrom oddB leP at *
  simp only [decide_eq_false_iff_not]
  split <;> split <;> (try dsimp only) <;> omega
theorem first_ge (f : Frm) (p : Plc) (lead : Nat) : leP p (firstFrom f p lead) := by
  unfold firstFrom leP
  split <;> (try dsimp only) <;> omega
theorem behind_row {f : Frm} {p : Plc} (lead : Nat) (hp : p.2 < f.high) : (behindP f p lead).2 < f.high := by
  unfold behindP rowsOn
  split
  · exact hp
  · split
    · split <;> (try dsimp only) <;> omega
    · split <;> (try dsimp only) <;> omega
theorem first_row {f : Frm} {p : Plc} (lead : Nat) (hp : p.2 < f.high) : (firstFrom f p lead).2 < f.high := by
  unfold firstFrom
  split <;> (try dsimp only) <;> omega
theorem behind_page {f : Frm} {p : Plc} (lead : Nat) : (behindP f p lead).1 ≤ p.1 + 2 := by
  unfold behindP rowsOn
  split
  · omega
  · split
    · split <;> (try dsimp only) <;> omega
    · split <;> (try dsimp only) <;> omega
theorem first_page {f : Frm} {p : Plc} (lead : Nat) : (firstFrom f p lead).1 ≤ p.1 + 1 := by
  unfold firstFrom
  split <;> (try dsimp only) <;> omega
def ftW (f : Frm) (ps : List Plc) (ws : List Wrd) (k : Nat) : Nat := highBy f ps (wdAt ws k).foot
/-- the sums of a run of words -/
def sumR (g : Nat → Nat) (j : Nat) : Nat → Nat
  | 0 => 0
  | n + 1 => sumR g j n + g (j + n)
section
variable (f : Frm) (ws : List Wrd) (low : List Plc)
def rBehind (i : Nat) : Plc := firstFrom f (if 0 < i then laterP (plAt low i) (behindP f (plAt low (i - 1)) (wdAt ws i).lead) else plAt low i) (wdAt ws i).lead
/-- a spot that a reason tells of word i -/
inductive Reason (i : Nat) : Plc → Prop
  | behind : Reason i (rBehind f ws low i)
  | wide {j : Nat} : j < i → f.wide < (i - j) + sumR (ownW f low ws) j (i - j + 1) → Reason i (behindP f (plAt low j) 1)
  | high {j : Nat} : j ≤ i → (plAt low i).1 ≤ (plAt low j).1 → f.high < (plAt low i).2 + 1 + sumR (ftW f low ws) j (i - j + 1) → Reason i ((plAt low i).1 + 1, 0)
  | kept : i + 1 < low.length → (wdAt ws (i + 1)).kept = true → Reason i ((plAt low (i + 1)).1, 0)
  | never : (f.wide < ownW f low ws i ∨ f.high ≤ ftW f low ws i) → Reason i (f.most, 0)
end
/-- raises, one behind the other, n of them -/
inductive Raises (f : Frm) (ws : List Wrd) : List Plc → List Plc → Nat → Prop
  | refl (low : List Plc) : Raises f ws low low 0
  | step {low now : List Plc} {n i : Nat} {spot : Plc} : Raises f ws low now n → i < now.length → Reason f ws now i spot → ltP (plAt now i) spot → Raises f ws low (now.set i spot) (n + 1)
theorem Raises.len {f : Frm} {ws : List Wrd} {a b : List Plc} {n : Nat} (h : Raises f ws a b n) : b.length = a.length := by
  induction h with
  | refl => rfl
  | step _ _ _ _ ih => rw [List.length_set, ih]
theorem Raises.trans {f : Frm} {ws : List Wrd} {a b c : List Plc} {m n : Nat} (h : Raises f ws a b m) (h' : Raises f ws b c n) : Raises f ws a c (m + n) := by
  induction h' with
  | refl => exact h
  | step _ h1 h2 h3 ih => exact .step ih h1 h2 h3
theorem Raises.zero {f : Frm} {ws : List Wrd} {a b : List Plc} (h : Raises f ws a b 0) : b = a := by cases h; rfl
theorem plAt_set {low : List Plc} {i k : Nat} {p : Plc} (h : i < low.length) : plAt (low.set i p) k = if k = i then p else plAt low k := by
  unfold plAt
  rw [List.getD_eq_getElem?_getD, List.getD_eq_getElem?_getD]
  by_cases e : k = i
  · subst e; rw [if_pos rfl, List.getElem?_set_self h]; rfl
  · rw [if_neg e, List.getElem?_set_ne (Ne.symm e)]
/-- the rows of bounds are a page's -/
def okLow (f : Frm) (low : List Plc) : Prop := ∀ k, (plAt low k).2 < f.high
theorem reason_row {f : Frm} {ws : List Wrd} {low : List Plc} (h : okLow f low) {i : Nat} {p : Plc} (r : Reason f ws low i p) : p.2 < f.high := by
  have h0 : 0 < f.high := by have := h 0; omega
  cases r with
  | behind =>
    unfold rBehind
    refine first_row _ ?_
    split
    · unfold laterP
      split
      · exact behind_row _ (h _)
      · exact h _
    · exact h _
  | wide _ _ => exact behind_row _ (h _)
  | high _ _ _ => exact h0
  | kept _ _ => exact h0
  | never _ => exact h0
theorem Raises.low {f : Frm} {ws : List Wrd} {a b : List Plc} {n : Nat} (h : Raises f ws a b n) (ha : okLow f a) : okLow f b := by
  induction h with
  | refl => exact ha
  | step _ h1 h2 h3 ih =>
    intro k
    rw [plAt_set h1]
    split
    · exact reason_row ih h2
    · exact ih k
/-! ### how far bounds can be raised -/
def ixP (f : Frm) (p : Plc) : Nat := p.1 * f.high + p.2
theorem ix_lt {f : Frm} {p q : Plc} (hp : p.2 < f.high) (h : ltP p q) : ixP f p < ixP f q := by
  unfold ixP
  rcases h with h | ⟨h, h'⟩
  · have : (p.1 + 1) * f.high ≤ q.1 * f.high := Nat.mul_le_mul_right _ h
    rw [Nat.succ_mul] at this
    omega
  · rw [h]; omega
theorem ix_le {f : Frm} {p q : Plc} (hp : p.2 < f.high) (h : leP p q) : ixP f p ≤ ixP f q := by
  by_cases e : p = q
  · rw [e]; exact Nat.le_refl _
  · exact Nat.le_of_lt (ix_lt hp (lt_of_le_ne h e))
def sumIx (f : Frm) (low : List Plc) : Nat := (low.map (ixP f)).sum
theorem sum_set : ∀ (l : List Nat) (i v : Nat) (h : i < l.length), (l.set i v).sum + l[i] = l.sum + v
  | [], _, _, h => by simp at h
  | x :: l, 0, v, _ => by simp; omega
  | x :: l, i + 1, v, h => by
    have := sum_set l i v (by simpa using h)
    simp only [List.set_cons_succ, List.sum_cons, List.getElem_cons_succ]
    omega
theorem Raises.sum {f : Frm} {ws : List Wrd} {a b : List Plc} {n : Nat} (h : Raises f ws a b n) (ha : okLow f a) : sumIx f a + n ≤ sumIx f b := by
  induction h with
  | refl => omega
  | step r h1 h2 h3 ih =>
    rename_i now n' i spot
    have hl := ix_lt (r.low ha i) h3
    have e := sum_set (now.map (ixP f)) i (ixP f spot) (by simpa using h1)
    have e2 : (now.map (ixP f))[i]'(by simpa using h1) = ixP f (plAt now i) := by
      rw [List.getElem_map]
      congr 1
      exact Option.some.inj ((List.getElem?_eq_getElem h1).symm.trans (plAt_get h1))
    rw [e2] at e
    unfold sumIx at *
    rw [List.map_set]
    omega
theorem sum_le {f : Frm} {low : List Plc} {m : Nat} (h : okLow f low) (hp : ∀ k, (plAt low k).1 ≤ m) : sumIx f low ≤ low.length * ((m + 1) * f.high) := by
  unfold sumIx
  have : ∀ l : List Nat, (∀ x ∈ l, x ≤ (m + 1) * f.high) → l.sum ≤ l.length * ((m + 1) * f.high) := by
    intro l
    induction l with
    | nil => intro _; simp
    | cons x l ih =>
      intro hx
      have h1 := hx x List.mem_cons_self
      have h2 := ih fun y hy => hx y (List.mem_cons_of_mem _ hy)
      rw [List.sum_cons, List.length_cons, Nat.succ_mul]
      omega
  have := this (low.map (ixP f)) fun x hx => by
    obtain ⟨p, hpm, rfl⟩ := List.mem_map.mp hx
    obtain ⟨k, hk⟩ := List.mem_iff_getElem?.mp hpm
    have e := Option.some.inj ((plAt_get (List.getElem?_eq_some_iff.mp hk).1).symm.trans hk)
    have h1 := h k
    have h2 := hp k
    rw [e] at h1 h2
    unfold ixP
    have : p.1 * f.high ≤ m * f.high := Nat.mul_le_mul_right _ h2
    rw [Nat.succ_mul]
    omega
  rwa [List.length_map] at this
end Tl

/-! True layings: no reason brings a word beyond one. -/
namespace Tl
open PySem PySem.Spec PyProof.Rows L2 PV
structure TrueAt (f : Frm) (ws : List Wrd) (low : List Plc) (k : Nat) : Prop where
  page : (plAt low k).1 < f.most
  lead : leP (rBehind f ws low k) (plAt low k)
  wide : stW low (ownW f low ws) k ≤ f.wide
  high : (plAt low k).2 + 1 + stH low (ftW f low ws) k ≤ f.high
  kept : 0 < k → (wdAt ws k).kept = true → (plAt low (k - 1)).1 = (plAt low k).1
def TrueL (f : Frm) (ws : List Wrd) (low : List Plc) : Prop := ∀ k, k < low.length → TrueAt f ws low k
def leL (a b : List Plc) : Prop := ∀ k, leP (plAt a k) (plAt b k)
section
variable {f : Frm} {ws : List Wrd} {low L : List Plc}
theorem true_rises (hl : okLow f L) (h : TrueL f ws L) : risesP L := by
  intro k h0 hk
  have := (h k hk).lead
  unfold rBehind at this
  rw [if_pos h0] at this
  have h1 := leP_trans (first_ge f _ (wdAt ws k).lead) this
  exact leP_trans (behind_ge (wdAt ws k).lead (hl (k - 1))) (leP_trans (later_r _ _) h1)
theorem said_le (h : okLow f low) (hle : leL low L) (s : Say) : (said f low s).length ≤ (said f L s).length := by
  cases s with
  | txt t => exact Nat.le_refl _
  | pg k =>
    refine fig_mono ?_
    have := hle k
    unfold leP at this
    omega
  | rw k =>
    refine fig_mono ?_
    have := ix_le (h k) (hle k)
    unfold ixP at this
    omega
theorem highGo_le (wide high : Nat) : ∀ (a : List Nat) (r u : Nat), highGo wide high r u a ≤ high
  | [], r, u => by rw [highGo]; omega
  | x :: a, r, u => by
    rw [highGo]
    split
    · exact Nat.le_refl _
    · split
      · exact highGo_le wide high a _ _
      · exact highGo_le wide high a _ _
theorem highGo_high {wide high : Nat} : ∀ (a : List Nat) (r u : Nat), (∃ x ∈ a, wide < x) → highGo wide high r u a = high
  | [], r, u, ⟨_, h, _⟩ => nomatch h
  | x :: a, r, u, ⟨y, h, h2⟩ => by
    rw [highGo]
    split
    · rfl
    · rename_i hx
      have : ∃ x ∈ a, wide < x := by
        rcases List.mem_cons.mp h with e | e
        · subst e; exact absurd h2 hx
        · exact ⟨y, e, h2⟩
      split
      · exact highGo_high a _ _ this
      · exact highGo_high a _ _ this
theorem highGo_mono {wide high : Nat} {a b : List Nat} (hl : a.length = b.length) (h : ∀ (i x y : Nat), a[i]? = some x → b[i]? = some y → x ≤ y) : highGo wide high 0 0 a ≤ highGo wide high 0 0 b := by
  by_cases hb : ∃ y ∈ b, wide < y
  · rw [highGo_high b 0 0 hb]; exact highGo_le _ _ _ _ _
  · have hb' : ∀ y ∈ b, y ≤ wide := fun y hy => Nat.le_of_not_lt fun z => hb ⟨y, hy, z⟩
    have ha' : ∀ x ∈ a, x ≤ wide := fun x hx => by
      obtain ⟨i, hi⟩ := List.mem_iff_getElem?.mp hx
      have hlt := (List.getElem?_eq_some_iff.mp hi).1
      have := h i x b[i] hi (List.getElem?_eq_getElem (hl ▸ hlt))
      exact Nat.le_trans this (hb' _ (List.getElem_mem _))
    rw [highGo_grow _ _ _ ha', highGo_grow _ _ _ hb']
    have := grow_mono (wide := wide) a b 0 0 0 0 hl (fun i x y hx hy => ⟨h i x y hx hy, hb' y (List.mem_of_getElem? hy)⟩) (.inr ⟨rfl, Nat.le_refl _⟩)
    omega
theorem highBy_le (h : okLow f low) (hle : leL low L) (foot : List Say) : highBy f low foot ≤ highBy f L foot := by
  unfold highBy
  refine highGo_mono (by simp) fun i x y hx hy => ?_
  rw [List.getElem?_map] at hx hy
  cases e : foot[i]? with
  | none => rw [e] at hx; cases hx
  | some s =>
    rw [e] at hx hy
    obtain rfl := Option.some.inj hx
    obtain rfl := Option.some.inj hy
    exact said_le h hle s
theorem sumR_mono {a b : Nat → Nat} (h : ∀ k, a k ≤ b k) (j : Nat) : ∀ n, sumR a j n ≤ sumR b j n
  | 0 => Nat.le_refl _
  | n + 1 => by have := sumR_mono h j n; have := h (j + n); unfold sumR; omega
theorem sum_stW (ps : List Plc) (own : Nat → Nat) (j : Nat) : ∀ n, (∀ k, k ≤ n → plAt ps (j + k) = plAt ps j) → n + sumR own j (n + 1) ≤ stW ps own (j + n)
  | 0, _ => by
    have := own_stW ps own j
    have e : sumR own j (0 + 1) = 0 + own (j + 0) := rfl
    rw [e, Nat.add_zero]
    omega
  | n + 1, h => by
    have ih := sum_stW ps own j n fun k hk => h k (by omega)
    have e : plAt ps (j + n) = plAt ps (j + n + 1) := (h n (by omega)).trans (h (n + 1) (by omega)).symm
    have e2 : sumR own j (n + 1 + 1) = sumR own j (n + 1) + own (j + (n + 1)) := rfl
    rw [e2, show j + (n + 1) = j + n + 1 by omega, stW_succ, if_pos e]
    omega
theorem sum_stH (ps : List Plc) (ft : Nat → Nat) (j : Nat) : ∀ n, (∀ k, k ≤ n → (plAt ps (j + k)).1 = (plAt ps j).1) → sumR ft j (n + 1) ≤ stH ps ft (j + n)
  | 0, _ => by
    have := own_stH ps ft j
    have e : sumR ft j (0 + 1) = 0 + ft (j + 0) := rfl
    rw [e, Nat.add_zero]
    omega
  | n + 1, h => by
    have ih := sum_stH ps ft j n fun k hk => h k (by omega)
    have e : (plAt ps (j + n)).1 = (plAt ps (j + n + 1)).1 := (h n (by omega)).trans (h (n + 1) (by omega)).symm
    have e2 : sumR ft j (n + 1 + 1) = sumR ft j (n + 1) + ft (j + (n + 1)) := rfl
    rw [e2, show j + (n + 1) = j + n + 1 by omega, stH_succ, if_pos e]
    omega
/-- no reason goes beyond a true laying -/
theorem reason_le (h : okLow f low) (hL : okLow f L) (hlen : low.length = L.length) (hle : leL low L) (ht : TrueL f ws L) {i : Nat} (hi : i < low.length) {p : Plc} (r : Reason f ws low i p) : leP p (plAt L i) := by
  have hr := true_rises hL ht
  have hi' : i < L.length := hlen ▸ hi
  have hti := ht i hi'
  cases r with
  | behind =>
    refine leP_trans ?_ hti.lead
    unfold rBehind
    refine first_mono ?_
    split
    · refine later_le ?_ ?_
      · exact leP_trans (hle i) (later_l _ _)
      · exact leP_trans (behind_mono (h _) (hL _) (hle (i - 1))) (later_r _ _)
    · exact hle i
  | wide hj hw =>
    rename_i j
    have hji := rises_le hr (i - j) j (by omega)
    rw [show j + (i - j) = i by omega] at hji
    by_cases e : plAt L j = plAt L i
    · exfalso
      have same : ∀ k, k ≤ i - j → plAt L (j + k) = plAt L j := fun k hk => by
        have a := rises_le hr k j (by omega)
        have b := rises_le hr (i - j - k) (j + k) (by omega)
        rw [show j + k + (i - j - k) = i by omega, ← e] at b
        exact leP_anti b a
      have s1 := sum_stW L (ownW f L ws) j (i - j) same
      rw [show j + (i - j) = i by omega] at s1
      have s2 := sumR_mono (fun k => said_le h hle (wdAt ws k).own) j (i - j + 1)
      have s3 := hti.wide
      have s4 : sumR (ownW f low ws) j (i - j + 1) ≤ sumR (ownW f L ws) j (i - j + 1) := s2
      omega
    · have hlt := lt_of_le_ne hji e
      have hm : leP (behindP f (plAt low j) 1) (behindP f (plAt L j) 1) := behind_mono (h _) (hL _) (hle j)
      refine leP_trans hm ?_
      have hrow := hL i
      have hrj := hL j
      unfold behindP rowsOn
      rw [if_neg (by decide), if_pos (by decide)]
      unfold ltP at hlt
      unfold leP
      split <;> (try dsimp only) <;> omega
  | high hj hp hw =>
    rename_i j
    have hji := rises_le hr (i - j) j (by omega)
    rw [show j + (i - j) = i by omega] at hji
    by_cases e : (plAt low i).1 < (plAt L i).1
    · unfold leP; dsimp only; omega
    · exfalso
      have e1 := hle i
      have e2 := hle j
      have ep : (plAt L i).1 = (plAt low i).1 := by unfold leP at e1; omega
      have er : (plAt low i).2 ≤ (plAt L i).2 := by unfold leP at e1; omega
      have ej : (plAt L j).1 = (plAt L i).1 := by unfold leP at e2 hji; omega
      have same : ∀ k, k ≤ i - j → (plAt L (j + k)).1 = (plAt L j).1 := fun k hk => by
        have a := rises_le hr k j (by omega)
        have b := rises_le hr (i - j - k) (j + k) (by omega)
        rw [show j + k + (i - j - k) = i by omega] at b
        unfold leP at a b
        omega
      have s1 := sum_stH L (ftW f L ws) j (i - j) same
      rw [show j + (i - j) = i by omega] at s1
      have s2 : sumR (ftW f low ws) j (i - j + 1) ≤ sumR (ftW f L ws) j (i - j + 1) := sumR_mono (fun k => highBy_le h hle (wdAt ws k).foot) j (i - j + 1)
      have s3 := hti.high
      omega
  | kept hk1 hk =>
    have hk2 := (ht (i + 1) (by omega)).kept (by omega) hk
    rw [Nat.add_sub_cancel] at hk2
    have e1 := hle (i + 1)
    unfold leP at *
    dsimp only
    omega
  | never hw =>
    exfalso
    have s1 := own_stW L (ownW f L ws) i
    have s2 := own_stH L (ftW f L ws) i
    have s3 : ownW f low ws i ≤ ownW f L ws i := said_le h hle _
    have s4 : ftW f low ws i ≤ ftW f L ws i := highBy_le h hle _
    have s5 := hti.wide
    have s6 := hti.high
    omega
theorem raises_le {n : Nat} (hr : Raises f ws low L n) : ∀ {T : List Plc}, okLow f low → okLow f T → low.length = T.length → leL low T → TrueL f ws T → leL L T := by
  induction hr with
  | refl => intro T _ _ _ h _; exact h
  | step r h1 h2 h3 ih =>
    intro T a b c d e k
    have := ih a b c d e
    rw [plAt_set h1]
    split
    · rename_i z
      subst z
      exact reason_le (r.low a) b (r.len.trans c) this e h1 h2
    · exact this k
end
end Tl

/-! The pure-value layer: defs that change what is handed in. -/
namespace PV
open PySem PySem.Spec PyProof.Rows L2
/-- a slot of an object, with or without where it stands -/
structure Asl where
  G : Option Addr → Slot
  ok : ∀ (p : Option Addr) (K : PySem.W.Frag) (F : Hp) (v : V) (m : Mini), (G p).R K F v m ↔ (∃ a, v = .ref a ∧ ∀ q, p = some q → a = q) ∧ (G none).R K F v m
def owA (ds : List PyData) : Asl := ⟨fun p => ow p ds, fun p K F v m => ⟨fun ⟨a, vs, h1, h2, h3, h4⟩ => ⟨⟨a, h1, h3⟩, a, vs, h1, h2, (fun _ z => nomatch z), h4⟩, fun ⟨⟨a, h1, h3⟩, a', vs, h1', h2, _, h4⟩ => by
  subst h1
  obtain rfl : a' = a := by injection h1' with e; exact e.symm
  exact ⟨a', vs, rfl, h2, h3, h4⟩⟩⟩
theorem trL_iff (ts : List T) (p : Option Addr) (K : PySem.W.Frag) (F : Hp) (v : V) (m : Mini) : OT K F v (.lst p ts) m ↔ (∃ a, v = .ref a ∧ ∀ q, p = some q → a = q) ∧ OT K F v (.lst none ts) m := by
  constructor
  · intro h
    cases h with
    | lst h1 h2 h3 => exact ⟨⟨_, rfl, h1⟩, .lst (fun _ z => nomatch z) h2 h3⟩
  · rintro ⟨⟨a, rfl, h1⟩, h⟩
    cases h with
    | lst _ h2 h3 => exact .lst h1 h2 h3
def trA (ts : List T) : Asl := ⟨fun p => tr (.lst p ts), fun p K F v m => trL_iff ts p K F v m⟩
inductive Ar where
  | ro (S : Slot) | mu (G : Asl)
def ArgsR (K : PySem.W.Frag) (F : Hp) : Nat → List V → List Ar → (Nat → Mini) → Prop
  | _, [], [], _ => True
  | j, v :: vs, .ro S :: as, M => (S.R K F v [] ∧ M j = []) ∧ ArgsR K F (j + 1) vs as M
  | j, v :: vs, .mu G :: as, M => (G.G none).R K F v (M j) ∧ ArgsR K F (j + 1) vs as M
  | _, _, _, _ => False
def muIx : Nat → List Ar → List Nat
  | _, [] => []
  | j, .ro _ :: as => muIx (j + 1) as
  | j, .mu _ :: as => j :: muIx (j + 1) as
def OutsR (K : PySem.W.Frag) (F : Hp) (vs : List V) (M : Nat → Mini) : List Nat → List Asl → Prop
  | [], [] => True
  | j :: js, G :: Gs => (∃ v, vs[j]? = some v ∧ (G.G none).R K F v (M j)) ∧ OutsR K F vs M js Gs
  | _, _ => False
structure Post (F H : Hp) (M : Nat → Mini) (F' H' : Hp) (m : Mini) (M' : Nat → Mini) : Prop where
  f : Same F F'
  sub : Same F' H'
  keep : ∀ a o, H a = some o → (∀ j o', (a, o') ∉ M j) → H' a = some o
  new : ∀ a o, F' a = some o → F a = none → H a = none ∨ ∃ j o', (a, o') ∈ M j
  own : ∀ j a o, (a, o) ∈ M' j → H' a = some o ∧ F' a = none ∧ (H a = none ∨ ∃ k o', (a, o') ∈ M k)
  ownm : ∀ a o, (a, o) ∈ m → H' a = some o ∧ F' a = none ∧ (H a = none ∨ ∃ k o', (a, o') ∈ M k)
  apart : ∀ j k a o o', (a, o) ∈ M' j → (a, o') ∈ M' k → j = k
  apartm : ∀ j a o o', (a, o) ∈ m → (a, o') ∉ M' j
/-- a def that may change what stands at its arguments of kind mu -/
def spM (K : PySem.W.Frag) (C : Ec → Addr) {ι : Type} (n : Nat) (ins : ι → List Ar) (pre : ι → Prop) (r : ι → Except Ec Slot → List Asl → Prop) : Sp := fun vs H Q E =>
  ∃ (i : ι) (F : Hp) (M : Nat → Mini), Same F H ∧ vs.length = n ∧ ArgsR K F 0 vs (ins i) M ∧ (∀ j a o, (a, o) ∈ M j → H a = some o ∧ F a = none) ∧ (∀ j k a o o', (a, o) ∈ M j → (a, o') ∈ M k → j = k) ∧ pre i ∧
    (∀ S outs, r i (.ok S) outs → ∀ v F' H' m M', Post F H M F' H' m M' → S.R K F' v m → OutsR K F' vs M' (muIx 0 (ins i)) outs → Q v H') ∧
    (∀ c outs, r i (.error c) outs → ∀ F' H' M', Post F H M F' H' [] M' → OutsR K F' vs M' (muIx 0 (ins i)) outs → E (.ref (C c)) none H')
/-! ### the names of the caller -/
def dropAll (ρ : Env) : List (Nat × Option Addr) → Env
  | [] => ρ
  | x :: l => dropAll (ρ.set x.1 none) l
def giveAll (ρ : Env) : List (Nat × Option Addr) → List Asl → Env
  | x :: l, G :: Gs => giveAll (ρ.set x.1 (some (G.G x.2))) l Gs
  | _, _ => ρ
/-- the arguments of a call, by the caller's slots -/
def CallR (K : PySem.W.Frag) (F : Hp) (ρ : Env) (σ : St) (M : Nat → Mini) : List V → List Ar → List (Nat × Option Addr) → Prop
  | [], [], [] => True
  | v :: vs, .ro S :: as, ix => S.R K F v [] ∧ CallR K F ρ σ M vs as ix
  | v :: vs, .mu G :: as, x :: ix => (ρ[x.1]? = some (some (G.G x.2)) ∧ σ[x.1]? = some (some v) ∧ (G.G x.2).R K F v (M x.1)) ∧ CallR K F ρ σ M vs as ix
  | _, _, _ => False
/-- what the callee owns: by position, from the caller's -/
def mOf (M : Nat → Mini) : Nat → List Ar → List (Nat × Option Addr) → Nat → Mini
  | j, .ro _ :: as, ix => fun k => if k = j then [] else mOf M (j + 1) as ix k
  | j, .mu _ :: as, x :: ix => fun k => if k = j then M x.1 else mOf M (j + 1) as ix k
  | _, _, _ => fun _ => []
theorem mOf_lt {M : Nat → Mini} : ∀ {as : List Ar} {ix : List (Nat × Option Addr)} {j k : Nat}, k < j → mOf M j as ix k = []
  | [], _, _, _, _ => by unfold mOf; rfl
  | .ro _ :: as, ix, j, k, h => by unfold mOf; rw [if_neg (by omega)]; exact mOf_lt (by omega)
  | .mu _ :: as, [], j, k, h => by unfold mOf; rfl
  | .mu _ :: as, x :: ix, j, k, h => by unfold mOf; rw [if_neg (by omega)]; exact mOf_lt (by omega)
theorem mOf_mem {M : Nat → Mini} : ∀ {as : List Ar} {ix : List (Nat × Option Addr)} {j k : Nat} {y : Addr × HO}, y ∈ mOf M j as ix k → ∃ x ∈ ix, y ∈ M x.1
  | [], _, _, _, _, h => by unfold mOf at h; cases h
  | .ro _ :: as, ix, j, k, y, h => by
    unfold mOf at h
    split at h
    · cases h
    · exact mOf_mem h
  | .mu _ :: as, [], j, k, _, h => by unfold mOf at h; cases h
  | .mu _ :: as, x :: ix, j, k, y, h => by
    unfold mOf at h
    split at h
    · exact ⟨x, List.mem_cons_self, h⟩
    · obtain ⟨x', h1, h2⟩ := mOf_mem h
      exact ⟨x', List.mem_cons_of_mem _ h1, h2⟩
theorem mOf_apart {M : Nat → Mini} (ap : ∀ i j a o o', (a, o) ∈ M i → (a, o') ∈ M j → i = j) : ∀ {as : List Ar} {ix : List (Nat × Option Addr)} {j : Nat}, (ix.map (·.1)).Nodup → ∀ k l a o o', (a, o) ∈ mOf M j as ix k → (a, o') ∈ mOf M j as ix l → k = l
  | [], _, _, _, _, _, _, _, _, h, _ => by unfold mOf at h; cases h
  | .ro _ :: as, ix, j, nd, k, l, a, o, o', h, h' => by
    unfold mOf at h h'
    split at h
    · cases h
    · split at h'
      · cases h'
      · exact mOf_apart ap nd k l a o o' h h'
  | .mu _ :: as, [], j, _, _, _, _, _, _, h, _ => by unfold mOf at h; cases h
  | .mu _ :: as, x :: ix, j, nd, k, l, a, o, o', h, h' => by
    rw [List.map_cons, List.nodup_cons] at nd
    unfold mOf at h h'
    split at h
    · split at h'
      · omega
      · obtain ⟨x', h1, h2⟩ := mOf_mem h'
        have e := ap _ _ _ _ _ h h2
        exact absurd (List.mem_map.mpr ⟨x', h1, e.symm⟩) nd.1
    · split at h'
      · obtain ⟨x', h1, h2⟩ := mOf_mem h
        have e := ap _ _ _ _ _ h' h2
        exact absurd (List.mem_map.mpr ⟨x', h1, e.symm⟩) nd.1
      · exact mOf_apart ap nd.2 k l a o o' h h'
theorem CallR.args {K : PySem.W.Frag} {F : Hp} {ρ : Env} {σ : St} {M N : Nat → Mini} : ∀ {vs : List V} {as : List Ar} {ix : List (Nat × Option Addr)} {j : Nat}, CallR K F ρ σ M vs as ix → (∀ k, j ≤ k → N k = mOf M j as ix k) → ArgsR K F j vs as N
  | [], [], [], _, _, _ => trivial
  | v :: vs, .ro S :: as, ix, j, h, e => by
    refine ⟨⟨h.1, ?_⟩, CallR.args h.2 fun k hk => ?_⟩
    · rw [e j (Nat.le_refl _)]; unfold mOf; rw [if_pos rfl]
    · rw [e k (by omega)]
      show (if k = j then [] else mOf M (j + 1) as ix k) = _
      rw [if_neg (by omega)]
  | v :: vs, .mu G :: as, x :: ix, j, h, e => by
    refine ⟨?_, CallR.args h.2 fun k hk => ?_⟩
    · rw [e j (Nat.le_refl _)]
      show (G.G none).R K F v (if j = j then M x.1 else _)
      rw [if_pos rfl]
      exact ((G.ok x.2 K F v (M x.1)).mp h.1.2.2).2
    · rw [e k (by omega)]
      show (if k = j then M x.1 else mOf M (j + 1) as ix k) = _
      rw [if_neg (by omega)]
  | [], [], _ :: _, _, h, _ => h.elim
  | [], _ :: _, _, _, h, _ => h.elim
  | _ :: _, [], _, _, h, _ => h.elim
  | _ :: _, .mu _ :: _, [], _, h, _ => h.elim
theorem CallR.len {K : PySem.W.Frag} {F : Hp} {ρ : Env} {σ : St} {M : Nat → Mini} : ∀ {vs : List V} {as : List Ar} {ix : List (Nat × Option Addr)}, CallR K F ρ σ M vs as ix → vs.length = as.length
  | [], [], [], _ => rfl
  | v :: vs, .ro S :: as, ix, h => by rw [List.length_cons, List.length_cons, CallR.len h.2]
  | v :: vs, .mu G :: as, x :: ix, h => by rw [List.length_cons, List.length_cons, CallR.len h.2]
  | [], [], _ :: _, h => h.elim
  | [], _ :: _, _, h => h.elim
  | _ :: _, [], _, h => h.elim
  | _ :: _, .mu _ :: _, [], h => h.elim
theorem mOf_cover {K : PySem.W.Frag} {F : Hp} {ρ : Env} {σ : St} {M : Nat → Mini} : ∀ {vs : List V} {as : List Ar} {ix : List (Nat × Option Addr)} {j : Nat}, CallR K F ρ σ M vs as ix → ∀ x ∈ ix, ∀ y ∈ M x.1, ∃ k, y ∈ mOf M j as ix k
  | [], [], [], _, _, _, h, _, _ => nomatch h
  | v :: vs, .ro S :: as, ix, j, h, x, hx, y, hy => by
    obtain ⟨k, hk⟩ := mOf_cover (j := j + 1) h.2 x hx y hy
    refine ⟨k, ?_⟩
    show y ∈ (if k = j then [] else mOf M (j + 1) as ix k)
    rw [if_neg (fun e => by subst e; rw [mOf_lt (by omega)] at hk; cases hk)]
    exact hk
  | v :: vs, .mu G :: as, x0 :: ix, j, h, x, hx, y, hy => by
    rcases List.mem_cons.mp hx with e | e
    · subst e
      exact ⟨j, by show y ∈ (if j = j then M x.1 else _); rw [if_pos rfl]; exact hy⟩
    · obtain ⟨k, hk⟩ := mOf_cover (j := j + 1) h.2 x e y hy
      refine ⟨k, ?_⟩
      show y ∈ (if k = j then M x0.1 else mOf M (j + 1) as ix k)
      rw [if_neg (fun e => by subst e; rw [mOf_lt (by omega)] at hk; cases hk)]
      exact hk
  | [], [], _ :: _, _, h, _, _, _, _ => h.elim
  | [], _ :: _, _, _, h, _, _, _, _ => h.elim
  | _ :: _, [], _, _, h, _, _, _, _ => h.elim
  | _ :: _, .mu _ :: _, [], _, h, _, _, _, _ => h.elim
/-- the callee's outs for the caller's names, in order -/
def GiveR (K : PySem.W.Frag) (F : Hp) (σ : St) (M' : Nat → Mini) : List (Nat × Option Addr) → List Asl → List Nat → Prop
  | [], [], [] => True
  | x :: ix, G :: Gs, j :: js => (∃ v, σ[x.1]? = some (some v) ∧ (G.G x.2).R K F v (M' j)) ∧ GiveR K F σ M' ix Gs js
  | _, _, _ => False
theorem CallR.give {K : PySem.W.Frag} {F F' : Hp} {ρ : Env} {σ : St} {M M' : Nat → Mini} {ws : List V} : ∀ {vs : List V} {as : List Ar} {ix : List (Nat × Option Addr)} {j : Nat} {outs : List Asl}, CallR K F ρ σ M vs as ix → (∀ k v, vs[k]? = some v → ws[j + k]? = some v) → OutsR K F' ws M' (muIx j as) outs → GiveR K F' σ M' ix outs (muIx j as)
  | [], [], [], _, [], _, _, _ => trivial
  | [], [], [], _, _ :: _, _, _, h => h.elim
  | v :: vs, .ro S :: as, ix, j, outs, h, e, o => by
    have := CallR.give (j := j + 1) (ws := ws) (outs := outs) h.2 (fun k u hk => by rw [show j + 1 + k = j + (k + 1) by omega]; exact e (k + 1) u (by simpa using hk)) o
    exact this
  | v :: vs, .mu G :: as, x :: ix, j, [], h, e, o => o.elim
  | v :: vs, .mu G :: as, x :: ix, j, G' :: outs, h, e, o => by
    obtain ⟨⟨w, hw, hR⟩, o2⟩ := o
    have ew : w = v := by
      have := e 0 v rfl
      rw [Nat.add_zero] at this
      rw [this] at hw
      exact (Option.some.inj hw).symm
    subst ew
    refine ⟨⟨w, h.1.2.1, (G'.ok x.2 K F' w (M' j)).mpr ⟨?_, hR⟩⟩, CallR.give (j := j + 1) (ws := ws) (outs := outs) h.2 (fun k u hk => by rw [show j + 1 + k = j + (k + 1) by omega]; exact e (k + 1) u (by simpa using hk)) o2⟩
    exact ((G.ok x.2 K F w (M x.1)).mp h.1.2.2).1
  | [], [], _ :: _, _, _, h, _, _ => h.elim
  | [], _ :: _, _, _, _, h, _, _ => h.elim
  | _ :: _, [], _, _, _, h, _, _ => h.elim
  | _ :: _, .mu _ :: _, [], _, _, h, _, _ => h.elim
section
variable {K : PySem.W.Frag} {B F0 F H F' H' : Hp} {ρ : Env} {σ : St} {M : Nat → Mini}
def wipeM (M : Nat → Mini) : List (Nat × Option Addr) → Nat → Mini
  | [] => M
  | x :: l => wipeM (upM M x.1 []) l
theorem wipeM_sub : ∀ {ix : List (Nat × Option Addr)} {M : Nat → Mini} {i : Nat} {y : Addr × HO}, y ∈ wipeM M ix i → y ∈ M i ∧ ∀ x ∈ ix, x.1 ≠ i
  | [], _, _, _, h => ⟨h, fun _ z => nomatch z⟩
  | x :: ix, M, i, y, h => by
    obtain ⟨h1, h2⟩ := wipeM_sub (ix := ix) (M := upM M x.1 []) h
    by_cases e : i = x.1
    · subst e; rw [upM_same] at h1; cases h1
    · rw [upM_ne e] at h1
      refine ⟨h1, fun z hz => ?_⟩
      rcases List.mem_cons.mp hz with q | q
      · subst q; exact fun w => e w.symm
      · exact h2 z q
theorem PInv.dropAll : ∀ {ix : List (Nat × Option Addr)} {ρ : Env} {M : Nat → Mini}, PInv K B F0 ρ F σ H M → PInv K B F0 (PV.dropAll ρ ix) F σ H (wipeM M ix)
  | [], _, _, x => x
  | y :: ix, ρ, M, x => PInv.dropAll (ix := ix) (x.drop y.1)
theorem PInv.frame {A : Nat → Mini} {m : Mini} {A' : Nat → Mini} (x : PInv K B F0 ρ F σ H M) (p : Post F H A F' H' m A') (hA : ∀ j a o, (a, o) ∈ A j → B a = none) (hM : ∀ i j a o o', (a, o) ∈ M i → (a, o') ∉ A j) : PInv K B F0 ρ F' σ H' M where
  ok := {
    len := x.ok.len
    sub := p.sub
    at_ := fun i S h => by
      obtain ⟨v, h1, h2⟩ := x.ok.at_ i S h
      exact ⟨v, h1, S.mono K F F' v (M i) p.f h2⟩
    own := fun i a o h => by
      obtain ⟨h1, h2⟩ := x.ok.own i a o h
      refine ⟨p.keep a o h1 fun j o' => hM i j a o o' h, ?_⟩
      cases q : F' a with
      | none => rfl
      | some u =>
        rcases p.new a u q h2 with z | ⟨j, o', z⟩
        · rw [z] at h1; cases h1
        · exact absurd z (hM i j a o o' h)
    apart := x.ok.apart }
  base := fun a o h => p.keep a o (x.base a o h) fun j o' z => by rw [hA j a o' z] at h; cases h
  f0 := x.f0.trans p.f
  nb := fun a o h1 h2 => by
    cases q : F a with
    | some u => exact x.nb a u q h2
    | none =>
      rcases p.new a o h1 q with z | ⟨j, o', z⟩
      · exact x.base.free z
      · exact hA j a o' z
  mb := x.mb
theorem PInv.give {i : Nat} {S : Slot} {v : V} {m : Mini} (x : PInv K B F0 ρ F σ H M) (hσ : σ[i]? = some (some v)) (hS : S.R K F v m)
    (hm : ∀ (a : Addr) (o : HO), (a, o) ∈ m → H a = some o ∧ F a = none ∧ B a = none ∧ ∀ (j : Nat) (o' : HO), j ≠ i → (a, o') ∉ M j) : PInv K B F0 (ρ.set i (some S)) F σ H (upM M i m) := by
  have := x.set hS hm
  have e : σ.set i (some v) = σ := by
    apply List.ext_getElem?
    intro j
    by_cases h : j = i
    · subst h
      have hl := (List.getElem?_eq_some_iff.mp hσ).1
      rw [List.getElem?_set_self hl, hσ]
    · rw [List.getElem?_set_ne (Ne.symm h)]
  rwa [e] at this
theorem PInv.giveAll {M' : Nat → Mini} (hB : ∀ j a o, (a, o) ∈ M' j → H a = some o ∧ F a = none ∧ B a = none) (ap : ∀ j k a o o', (a, o) ∈ M' j → (a, o') ∈ M' k → j = k) : ∀ {ix : List (Nat × Option Addr)} {outs : List Asl} {js : List Nat} {ρ : Env} {M : Nat → Mini}, PInv K B F0 ρ F σ H M → GiveR K F σ M' ix outs js → js.Nodup → (∀ i, ∀ j ∈ js, ∀ a o o', (a, o) ∈ M' j → (a, o') ∉ M i) →
    ∃ M2, PInv K B F0 (PV.giveAll ρ ix outs) F σ H M2 ∧ ∀ i y, y ∈ M2 i → y ∈ M i ∨ ∃ j ∈ js, y ∈ M' j
  | [], [], [], ρ, M, x, _, _, _ => ⟨M, x, fun i y h => .inl h⟩
  | y :: ix, G :: outs, j :: js, ρ, M, x, h, nj, hM => by
    obtain ⟨⟨v, hv, hS⟩, h2⟩ := h
    rw [List.nodup_cons] at nj
    have x1 := x.give hv hS fun a o hm => ⟨(hB j a o hm).1, (hB j a o hm).2.1, (hB j a o hm).2.2, fun k o' _ => hM k j List.mem_cons_self a o o' hm⟩
    obtain ⟨M2, x2, hs⟩ := PInv.giveAll hB ap x1 h2 nj.2 fun i j2 hj2 a o o' hm z => by
      by_cases e : i = y.1
      · subst e
        rw [upM_same] at z
        have := ap _ _ _ _ _ hm z
        subst this
        exact nj.1 hj2
      · rw [upM_ne e] at z
        exact hM i j2 (List.mem_cons_of_mem _ hj2) a o o' hm z
    refine ⟨M2, x2, fun i u hu => ?_⟩
    rcases hs i u hu with z | ⟨j2, h3, z⟩
    · by_cases e : i = y.1
      · subst e
        rw [upM_same] at z
        exact .inr ⟨j, List.mem_cons_self, z⟩
      · rw [upM_ne e] at z
        exact .inl z
    · exact .inr ⟨j2, List.mem_cons_of_mem _ h3, z⟩
  | [], [], _ :: _, _, _, _, h, _, _ => h.elim
  | [], _ :: _, _, _, _, _, h, _, _ => h.elim
  | _ :: _, [], _, _, _, _, h, _, _ => h.elim
  | _ :: _, _ :: _, [], _, _, _, h, _, _ => h.elim
end
theorem muIx_ge : ∀ {as : List Ar} {j k : Nat}, k ∈ muIx j as → j ≤ k
  | [], _, _, h => nomatch h
  | .ro _ :: as, j, k, h => by have := muIx_ge (as := as) (j := j + 1) h; omega
  | .mu _ :: as, j, k, h => by
    rcases List.mem_cons.mp h with e | e
    · omega
    · have := muIx_ge e; omega
theorem muIx_nodup : ∀ {as : List Ar} {j : Nat}, (muIx j as).Nodup
  | [], _ => List.nodup_nil
  | .ro _ :: as, j => muIx_nodup (as := as)
  | .mu _ :: as, j => by
    rw [muIx, List.nodup_cons]
    exact ⟨fun h => by have := muIx_ge h; omega, muIx_nodup⟩
/-! ### expressions that change what names own -/
def EvM (X : Cx) (W : Wc) (ρ : Env) (e : Expr) (R : Except Ec Slot → Env → Prop) : Prop :=
  ∀ (pins : List (Addr × Obj)) (s : Shared) (σ : St) (F H : Hp) (M : Nat → Mini) (B F0 : Hp) (Q : VK), Inv X pins σ H s → PInv X.K B F0 ρ F σ H M →
    (∀ S ρ', R (.ok S) ρ' → ∀ v F' H' M' m, PInv X.K B F0 ρ' F' σ H' M' → S.R X.K F' v m → (∀ a o, (a, o) ∈ m → H' a = some o ∧ F' a = none ∧ B a = none ∧ ∀ j o', (a, o') ∉ M' j) → Q v H') →
    (∀ c ρ', R (.error c) ρ' → ∀ F' H' M', PInv X.K B F0 ρ' F' σ H' M' → W c σ H') →
    wpAny (model X.prog X.w) X.A (eval e X.env) (EP X pins σ Q) X.xe s
def tEvM (X : Cx) (W : Wc) (ρ : Env) (R : Except Ec Slot → Env → Prop) : TE := fun σ H Q => ∃ F M B F0, PInv X.K B F0 ρ F σ H M ∧
    (∀ S ρ', R (.ok S) ρ' → ∀ v F' H' M' m, PInv X.K B F0 ρ' F' σ H' M' → S.R X.K F' v m → (∀ a o, (a, o) ∈ m → H' a = some o ∧ F' a = none ∧ B a = none ∧ ∀ j o', (a, o') ∉ M' j) → Q v H') ∧
    (∀ c ρ', R (.error c) ρ' → ∀ F' H' M', PInv X.K B F0 ρ' F' σ H' M' → W c σ H')
theorem EvM.pe {X : Cx} {W : Wc} {ρ : Env} {e : Expr} {R : Except Ec Slot → Env → Prop} (h : EvM X W ρ e R) : PE X e (tEvM X W ρ R) := ⟨fun pins s σ H Q I ⟨F, M, B, F0, ok, h1, h2⟩ => h pins s σ F H M B F0 Q I ok h1 h2⟩
def EvAM (X : Cx) (W : Wc) (ρ : Env) (es : List Expr) (as : List Ar) (ix : List (Nat × Option Addr)) : Prop :=
  ∀ (pos : Pos) (pins : List (Addr × Obj)) (s : Shared) (σ : St) (F H : Hp) (M : Nat → Mini) (Q : List V → Hp → Prop), Inv X pins σ H s → EOk X.K ρ F σ H M →
    (∀ vs F' H', Ext F H F' H' → CallR X.K F' ρ σ M vs as ix → Q vs H') → wpAny (model X.prog X.w) X.A (spliced (backTo pos (starEach es X.env))) (AP X pins σ Q) X.xe s
def tEvAM (X : Cx) (ρ : Env) (as : List Ar) (ix : List (Nat × Option Addr)) : TA := fun σ H Q => ∃ F M, EOk X.K ρ F σ H M ∧ (∀ vs F' H', Ext F H F' H' → CallR X.K F' ρ σ M vs as ix → Q vs H')
theorem CallR.mono {K : PySem.W.Frag} {F F' : Hp} {ρ : Env} {σ : St} {M : Nat → Mini} (e : Same F F') : ∀ {vs : List V} {as : List Ar} {ix : List (Nat × Option Addr)}, CallR K F ρ σ M vs as ix → CallR K F' ρ σ M vs as ix
  | [], [], [], _ => trivial
  | v :: vs, .ro S :: as, ix, h => ⟨S.mono K F F' v [] e h.1, CallR.mono e h.2⟩
  | v :: vs, .mu G :: as, x :: ix, h => ⟨⟨h.1.1, h.1.2.1, (G.G x.2).mono K F F' v _ e h.1.2.2⟩, CallR.mono e h.2⟩
  | [], [], _ :: _, h => h.elim
  | [], _ :: _, _, h => h.elim
  | _ :: _, [], _, h => h.elim
  | _ :: _, .mu _ :: _, [], h => h.elim
section
variable {X : Cx} {W : Wc} {ρ : Env} {e a b : Expr} {es : List Expr} {pos p : Pos} {C : Ec → Addr} {k : Nat} {rest : List Stmt} {Φ : Out → Prop}
theorem EvAM.pa {as : List Ar} {ix : List (Nat × Option Addr)} (h : EvAM X W ρ es as ix) : PA X es (tEvAM X ρ as ix) := ⟨fun pos pins s σ H Q I ⟨F, M, ok, h1⟩ => h pos pins s σ F H M Q I ok h1⟩
theorem am_nil : EvAM X W ρ [] [] [] := fun pos pins s σ F H M Q I ok h => pa_nil.run pos pins s σ H Q I (h _ F H (.refl ok.sub) trivial)
theorem am_ro {S : Slot} {as : List Ar} {ix : List (Nat × Option Addr)} (ha : EvS X W ρ e S) (hr : EvAM X W ρ es as ix) (hs : starEach (e :: es) X.env = (false, eval e X.env) :: starEach es X.env := by rfl) : EvAM X W ρ (e :: es) (.ro S :: as) ix :=
  fun pos pins s σ F H M Q I ok h => (pa_cons ha.pe hr.pa hs).run pos pins s σ H Q I ⟨F, M, ok, fun v F1 H1 x1 dv => ⟨F1, M, ok.ext x1, fun vs F2 H2 x2 dvs => h _ F2 H2 (x1.trans x2) ⟨S.mono _ _ _ _ _ x2.f dv, dvs⟩⟩⟩
theorem am_mu (i : Nat) (p : Option Addr) {G : Asl} {as : List Ar} {ix : List (Nat × Option Addr)} {x : Str} {px : Pos} (hd : ρ[i]? = some (some (G.G p))) (hr : EvAM X W ρ es as ix) (hN : X.N[i]? = some x := by rfl) (hv : Vis X.env.scope x := by first | exact Or.inl rfl | exact Or.inr (Or.inl rfl) | exact Or.inr (Or.inr rfl))
    (h1 : (x == ("__debug__" : Str)) = false := by decide) (h2 : (x == ("__classdict__" : Str)) = false := by decide) (hs : starEach (.Name x px :: es) X.env = (false, eval (.Name x px) X.env) :: starEach es X.env := by rfl) : EvAM X W ρ (.Name x px :: es) (.mu G :: as) ((i, p) :: ix) :=
  fun pos pins s σ F H M Q I ok h => (pa_cons (pe_var hN hv h1 h2) hr.pa hs).run pos pins s σ H Q I (by
    obtain ⟨v, e, q⟩ := ok.at_ i _ hd
    exact ⟨v, e, ⟨F, M, ok, fun vs F2 H2 x2 dvs => h _ F2 H2 x2 ⟨⟨hd, e, (G.G p).mono _ _ _ _ _ x2.f q⟩, dvs⟩⟩⟩)
variable {ι : Type} {n : Nat} {ins : ι → List Ar} {pre : ι → Prop} {r : ι → Except Ec Slot → List Asl → Prop} {x : Str} {j : Nat}
/-- a call that may change what the names ix own -/
theorem evm_call (ix : List (Nat × Option Addr)) (c : Ctx X C W k) (G : Callee X.prog X.w X.K X.mg X.base j x (spM X.K C n ins pre r)) (i : ι) (hp : pre i) (ha : EvAM X W ρ (e :: es) (ins i) ix) (hj : j ≤ k := by decide) (hn : (ins i).length = n := by rfl) (hix : (ix.map (·.1)).Nodup := by decide)
    (hg : Gl X x := by rfl) (hdb : (x == ("__debug__" : Str)) = false := by decide) (he : starEach (e :: es) X.env = (false, eval e X.env) :: starEach es X.env := by rfl) (hpl : (backTo pos (starEach es X.env)).any (·.1) = false := by rfl) :
    EvM X W ρ (.Call (.Name x p) (e :: es) [] pos) (fun o ρ' => ∃ outs, r i o outs ∧ ρ' = giveAll (dropAll ρ ix) ix outs) := by
  intro pins s σ F H M B F0 Q I ok h1 h2
  obtain ⟨f, fd, ps, hF, hm, hk, hb⟩ := G
  refine (pe_callS (E := WE (fun cls d σ H => ∃ c, cls = .ref (C c) ∧ d = none ∧ W c σ H)) hF (c.room.mono hj) hg hm hk hb (fun σ => passAt c.tk σ) ha.pa hdb he hpl).run pins s σ H Q I ?_
  refine ⟨F, M, ok.ok, fun vs F1 H1 x1 dvs => ?_⟩
  have ok1 := ok.ext x1
  have hcov := mOf_cover (j := 0) dvs
  have hA : ∀ j a o, (a, o) ∈ mOf M 0 (ins i) ix j → B a = none := fun j a o h => by
    obtain ⟨y, _, hy⟩ := mOf_mem h
    exact ok1.mb _ _ _ hy
  have hmM : ∀ i' j a o o', (a, o) ∈ wipeM M ix i' → (a, o') ∉ mOf M 0 (ins i) ix j := fun i' j a o o' h h' => by
    obtain ⟨h3, h4⟩ := wipeM_sub h
    obtain ⟨y, hy, hy2⟩ := mOf_mem h'
    exact h4 y hy (ok1.ok.apart _ _ _ _ _ hy2 h3)
  have key : ∀ {F' H' : Hp} {m : Mini} {M' : Nat → Mini} {outs : List Asl}, Post F1 H1 (mOf M 0 (ins i) ix) F' H' m M' → OutsR X.K F' vs M' (muIx 0 (ins i)) outs → ∃ M2, PInv X.K B F0 (giveAll (dropAll ρ ix) ix outs) F' σ H' M2 ∧ ∀ i' y, y ∈ M2 i' → y ∈ wipeM M ix i' ∨ ∃ j, y ∈ M' j := by
    intro F' H' m M' outs po oo
    have fr := (PInv.dropAll (ix := ix) ok1).frame po hA hmM
    have gv := CallR.give (ws := vs) dvs (fun k v hk => by rw [Nat.zero_add]; exact hk) oo
    have bn : ∀ a : Addr, (H1 a = none ∨ ∃ k o', (a, o') ∈ mOf M 0 (ins i) ix k) → B a = none := fun a h => by
      rcases h with z | ⟨k, o', z⟩
      · exact ok1.base.free z
      · exact hA k a o' z
    obtain ⟨M2, y1, y2⟩ := fr.giveAll (M' := M') (fun j a o h => ⟨(po.own j a o h).1, (po.own j a o h).2.1, bn a (po.own j a o h).2.2⟩) po.apart gv muIx_nodup fun i' j _ a o o' h h' => by
      have h3 := (ok1.dropAll (ix := ix)).ok.own i' a o' h'
      rcases (po.own j a o h).2.2 with z | ⟨k, o2, z⟩
      · rw [z] at h3; cases h3.1
      · exact hmM i' k a o' o2 h' z
    exact ⟨M2, y1, fun i' y hy => (y2 i' y hy).imp id fun ⟨j, _, z⟩ => ⟨j, z⟩⟩
  refine ⟨i, F1, mOf M 0 (ins i) ix, x1.sub, (CallR.len dvs).trans hn, CallR.args dvs fun k _ => rfl, fun j a o h => ?_, mOf_apart ok1.ok.apart hix, hp, fun S outs hS v F' H' m M' po hv oo => ?_, fun c' outs hc F' H' M' po oo => ⟨c', rfl, rfl, ?_⟩⟩
  · obtain ⟨y, _, hy⟩ := mOf_mem h
    exact ok1.ok.own _ _ _ hy
  · obtain ⟨M2, y1, y2⟩ := key po oo
    refine h1 S _ ⟨outs, hS, rfl⟩ v F' H' M2 m y1 hv fun a o hmm => ?_
    obtain ⟨z1, z2, z3⟩ := po.ownm a o hmm
    refine ⟨z1, z2, ?_, fun i' o' hi' => ?_⟩
    · rcases z3 with z | ⟨k, o', z⟩
      · exact ok1.base.free z
      · exact hA k a o' z
    · rcases y2 i' _ hi' with w | ⟨j, w⟩
      · have h3 := (ok1.dropAll (ix := ix)).ok.own i' a o' w
        rcases z3 with z | ⟨k, o2, z⟩
        · rw [z] at h3; cases h3.1
        · exact hmM i' k a o' o2 w z
      · exact po.apartm j a o o' hmm w
  · obtain ⟨M2, y1, _⟩ := key po oo
    exact h2 c' _ ⟨outs, hc, rfl⟩ F' H' M2 y1
/-! ### in statements -/
theorem sxs_exprM {R : Except Ec Slot → Env → Prop} (he : EvM X W ρ e R) (k : ∀ S ρ', R (.ok S) ρ' → Sxs X W rest ρ' Φ) (kr : ∀ c ρ', R (.error c) ρ' → Φ (.raise c ρ')) (hs : swapsWith e none pos.line X.env = pure false := by rfl) : Sxs X W (.Expr e pos :: rest) ρ Φ :=
  sxs_of (ps_expr he.pe hs) fun σ F H M B F0 D ok q => ⟨F, M, B, F0, ok, fun S ρ' hR v F' H' M' m x _ _ => ⟨_, Φ, F', M', B, F0, k S ρ' hR, x, q⟩, fun c ρ' hR F' H' M' x => q _ (kr c ρ' hR) F' σ H' M' x⟩
theorem sxs_retM {R : Except Ec Slot → Env → Prop} (he : EvM X W ρ e R) (k : ∀ S ρ', R (.ok S) ρ' → Φ (.ret S ρ')) (kr : ∀ c ρ', R (.error c) ρ' → Φ (.raise c ρ')) : Sxs X W (.Return (some e) pos :: rest) ρ Φ :=
  sxs_of (ps_ret he.pe) fun σ F H M B F0 D ok q => ⟨F, M, B, F0, ok, fun S ρ' hR v F' H' M' m x hv hm => q _ (k S ρ' hR) v F' σ H' _ (x.push hv hm), fun c ρ' hR F' H' M' x => q _ (kr c ρ' hR) F' σ H' M' x⟩
theorem sxs_setE (i : Nat) {x : Str} {pos' : Pos} {R : Except Ec Slot → Env → Prop} (he : EvM X W ρ e R) (k : ∀ S ρ', R (.ok S) ρ' → Sxs X W rest (ρ'.set i (some S)) Φ) (kr : ∀ c ρ', R (.error c) ρ' → Φ (.raise c ρ')) (hN : X.N.Nodup)
    (hi : X.N[i]? = some x := by rfl) (hx : Loc X.env.scope x := by first | exact Or.inl rfl | exact Or.inr rfl) (hs : swapsWith e (some (.Name x pos')) pos.line X.env = pure false := by rfl)
    (hf : X.fn x = true ∨ X.env.scope.names.lookup x = some .local := by first | exact .inl rfl | exact .inr rfl) : Sxs X W (.Assign [.Name x pos'] e pos :: rest) ρ Φ :=
  sxs_of (ps_set hN hi hx he.pe hs hf) fun σ F H M B F0 D ok q => ⟨F, M, B, F0, ok, fun S ρ' hR v F' H' M' m x hv hm => ⟨_, Φ, F', _, B, F0, k S ρ' hR, x.set hv fun a o z => ⟨(hm a o z).1, (hm a o z).2.1, (hm a o z).2.2.1, fun j o' _ => (hm a o z).2.2.2 j o'⟩, q⟩, fun c ρ' hR F' H' M' x => q _ (kr c ρ' hR) F' σ H' M' x⟩
end
end PV

/-! The pure-value layer: tests that change things; the defs themselves. -/
namespace PV
open PySem PySem.Spec PyProof.Rows L2
def TstM (X : Cx) (W : Wc) (ρ : Env) (e : Expr) (R : Except Ec Bool → Env → Prop) : Prop :=
  ∀ (pins : List (Addr × Obj)) (s : Shared) (σ : St) (F H : Hp) (M : Nat → Mini) (B F0 : Hp) (Q : Bool → Hp → Prop), Inv X pins σ H s → PInv X.K B F0 ρ F σ H M →
    (∀ b ρ', R (.ok b) ρ' → ∀ F' H' M', PInv X.K B F0 ρ' F' σ H' M' → Q b H') → (∀ c ρ', R (.error c) ρ' → ∀ F' H' M', PInv X.K B F0 ρ' F' σ H' M' → W c σ H') →
    wpAny (model X.prog X.w) X.A (isTrue e X.env (eval e X.env)) (TP X pins σ Q) X.xe s
def tTstM (X : Cx) (W : Wc) (e : Expr) : TT := fun σ H Q => ∃ ρ R F M B F0, TstM X W ρ e R ∧ PInv X.K B F0 ρ F σ H M ∧ (∀ b ρ', R (.ok b) ρ' → ∀ F' H' M', PInv X.K B F0 ρ' F' σ H' M' → Q b H') ∧ (∀ c ρ', R (.error c) ρ' → ∀ F' H' M', PInv X.K B F0 ρ' F' σ H' M' → W c σ H')
theorem pt_tstM {X : Cx} {W : Wc} {e : Expr} : PT X e (tTstM X W e) := ⟨fun pins s σ H Q I ⟨ρ, R, F, M, B, F0, h, ok, h1, h2⟩ => h pins s σ F H M B F0 Q I ok h1 h2⟩
section
variable {X : Cx} {W : Wc} {ρ : Env} {e a b : Expr} {es : List Expr} {pos : Pos} {C : Ec → Addr} {k : Nat} {rest : List Stmt} {Φ : Out → Prop}
/-- the outcomes of a test, from those of its value -/
def boolR (R : Except Ec Slot → Env → Prop) : Except Ec Bool → Env → Prop
  | .ok t, ρ' => R (.ok (fz (.bool t))) ρ'
  | .error c, ρ' => R (.error c) ρ'
theorem tstM_val {R : Except Ec Slot → Env → Prop} (h : EvM X W ρ e R) (hb : ∀ S ρ', R (.ok S) ρ' → ∃ t, S = fz (.bool t)) (he : ∀ whole, isTrue e X.env whole = (do let v ← whole; standAt e.pos; holding [v] (truthy v)) := by intro _; rfl) : TstM X W ρ e (boolR R) :=
  fun pins s σ F H M B F0 Q I ok h1 h2 => (pt_val h.pe he).run pins s σ H Q I ⟨F, M, B, F0, ok, fun S ρ' hR v F' H' M' m x hv hm => by
    obtain ⟨t, rfl⟩ := hb S ρ' hR
    exact ⟨t, dq_bl hv.2, h1 t ρ' hR F' H' M' x⟩, fun c ρ' hR F' H' M' x => h2 c ρ' hR F' H' M' x⟩
theorem tstM_of {b : Bool} (h : Tst X W ρ e b) : TstM X W ρ e (fun o ρ' => o = .ok b ∧ ρ' = ρ) :=
  fun pins s σ F H M B F0 Q I ok h1 h2 => h pins s σ F H M Q I ok.ok fun F' H' x => h1 b ρ ⟨rfl, rfl⟩ F' H' M (ok.ext x)
theorem tstM_not {R : Except Ec Bool → Env → Prop} (h : TstM X W ρ e R) : TstM X W ρ (.UnaryOp .Not e pos) (fun o ρ' => match o with | .ok t => R (.ok (!t)) ρ' | .error c => R (.error c) ρ') :=
  fun pins s σ F H M B F0 Q I ok h1 h2 => (pt_not pt_tstM).run pins s σ H Q I ⟨ρ, R, F, M, B, F0, h, ok, fun t ρ' hR F' H' M' x => h1 (!t) ρ' (by show R (.ok (!!t)) ρ'; rw [Bool.not_not]; exact hR) F' H' M' x, h2⟩
theorem tstM_and2 {p : Bool} {R : Except Ec Bool → Env → Prop} (h : Tst X W ρ a p) (h2 : p = true → TstM X W ρ b R) : TstM X W ρ (.BoolOp .And [a, b] pos) (fun o ρ' => (p = false ∧ o = .ok false ∧ ρ' = ρ) ∨ (p = true ∧ R o ρ')) :=
  fun pins s σ F H M B F0 Q I ok q1 q2 => by
    cases p with
    | false => exact (pw_and h.pt pw_none).run _ pins s σ H Q I ⟨F, M, ok.ok, fun F' H' x => iteF (q1 false ρ (.inl ⟨rfl, rfl, rfl⟩) F' H' M (ok.ext x))⟩
    | true => exact (pw_and h.pt (pw_and1 pt_tstM)).run _ pins s σ H Q I ⟨F, M, ok.ok, fun F' H' x => iteT ⟨ρ, R, F', M, B, F0, h2 rfl, ok.ext x, fun t ρ' hR => q1 t ρ' (.inr ⟨rfl, hR⟩), fun c ρ' hR => q2 c ρ' (.inr ⟨rfl, hR⟩)⟩⟩
/-- if .. -/
theorem sxs_ifM {c : Expr} {a b : List Stmt} {R : Except Ec Bool → Env → Prop} (hc : TstM X W ρ c R) (ha : ∀ ρ', R (.ok true) ρ' → Sxs X W a ρ' (thenS X W rest Φ)) (hb : ∀ ρ', R (.ok false) ρ' → Sxs X W b ρ' (thenS X W rest Φ)) (kr : ∀ cl ρ', R (.error cl) ρ' → Φ (.raise cl ρ')) : Sxs X W (.If c a b pos :: rest) ρ Φ :=
  sxs_of (ps_if (pt_tstM (W := W)) (pss_Sxs X W a) (pss_Sxs X W b)) fun σ F H M B F0 D ok q => ⟨ρ, R, F, M, B, F0, hc, ok, fun t ρ' hR F' H' M' x => by
    cases t with
    | true => exact iteT ⟨ρ', _, F', M', B, F0, ha ρ' hR, x, thenS_ok q⟩
    | false => exact iteF ⟨ρ', _, F', M', B, F0, hb ρ' hR, x, thenS_ok q⟩, fun cl ρ' hR F' H' M' x => q _ (kr cl ρ' hR) F' σ H' M' x⟩
/-- while .. -/
theorem sxs_whileM {body : List Stmt} (c : Ctx X C W k) (P : Nat → Env → Prop) {m0 : Nat} (h0 : P m0 ρ)
    (step : ∀ m ρ, P m ρ → ∃ R, TstM X W ρ e R ∧ (∀ ρ', R (.ok true) ρ' → Sxs X W body ρ' (turnS (fun ρ' => ∃ m', m' < m ∧ P m' ρ') X W rest Φ)) ∧ (∀ ρ', R (.ok false) ρ' → Sxs X W rest ρ' Φ) ∧ (∀ cl ρ', R (.error cl) ρ' → Φ (.raise cl ρ'))) : Sxs X W (.While e body [] pos :: rest) ρ Φ := by
  refine sxs_of (ps_while c.po (pt_tstM (W := W)) (pss_Sxs X W body)) fun σ F H M B F0 D ok q => ?_
  refine ⟨fun m σ H => ∃ ρ F M, P m ρ ∧ PInv X.K B F0 ρ F σ H M, ⟨m0, ρ, F, M, h0, ok⟩, ?_⟩
  rintro m σ2 H2 ⟨ρ2, F2, M2, p2, ok2⟩
  obtain ⟨R, hb, h1, h2, h3⟩ := step m ρ2 p2
  refine ⟨ρ2, R, F2, M2, B, F0, hb, ok2, fun b ρ3 hR F' H' M' ok3 => ?_, fun cl ρ' hR F' H' M' x => q _ (h3 cl ρ' hR) F' σ2 H' M' x⟩
  cases b with
  | false => exact iteF ⟨ρ3, Φ, F', M', B, F0, h2 ρ3 hR, ok3, q⟩
  | true =>
    refine iteT ⟨fun σ' H' => ∃ m', m' < m ∧ ∃ ρ F M, P m' ρ ∧ PInv X.K B F0 ρ F σ' H' M, fun σ' H' h => h, ρ3, _, F', M', B, F0, h1 ρ3 hR, ok3, fun o ho => ?_⟩
    have again : ∀ ρ', (∃ ρ'', Wk ρ' ρ'' ∧ ∃ m', m' < m ∧ P m' ρ'') → ∀ F σ H M, PInv X.K B F0 ρ' F σ H M → ∃ m', m' < m ∧ ∃ ρ F M, P m' ρ ∧ PInv X.K B F0 ρ F σ H M := fun ρ' ⟨ρ'', w, m', hm, p⟩ F σ H M ok5 => ⟨m', hm, ρ'', F, M, p, ok5.weak w⟩
    cases o with
    | next ρ' => exact again ρ' ho
    | cont ρ' => exact again ρ' ho
    | brk ρ' => exact fun F σ H M ok5 => ⟨ρ', Φ, F, M, B, F0, ho, ok5, q⟩
    | ret S ρ' => exact q _ ho
    | raise c ρ' => exact q _ ho
end
/-! ### the def itself -/
def envIn (ad : Nat → Addr) : Nat → List Ar → Env
  | _, [] => []
  | j, .ro S :: as => some S :: envIn ad (j + 1) as
  | j, .mu G :: as => some (G.G (some (ad j))) :: envIn ad (j + 1) as
def OutIn (ad : Nat → Addr) (ρ : Env) : List Nat → List Asl → Prop
  | [], [] => True
  | j :: js, G :: Gs => ρ[j]? = some (some (G.G (some (ad j)))) ∧ OutIn ad ρ js Gs
  | _, _ => False
def bodyM (ad : Nat → Addr) (js : List Nat) (r : Except Ec Slot → List Asl → Prop) : Out → Prop
  | .next ρ => ∃ outs, r (.ok (fz .none)) outs ∧ OutIn ad ρ js outs
  | .ret S ρ => ∃ outs, r (.ok S) outs ∧ OutIn ad ρ js outs
  | .raise c ρ => ∃ outs, r (.error c) outs ∧ OutIn ad ρ js outs
  | _ => False
section
variable {P : Program} {w : World} {K : PySem.W.Frag} {mg : Str → Option Value} {base : Heap} {C : Ec → Addr} {k : Nat} {x : Str} {st : Stmt} {N ps : List Str} {ι : Type} {ins : ι → List Ar} {pre : ι → Prop} {r : ι → Except Ec Slot → List Asl → Prop}
def adOf (vs : List V) (j : Nat) : Addr := match vs[j]? with
  | some (.ref a) => a
  | _ => 0
theorem ArgsR.len {F : Hp} : ∀ {vs : List V} {as : List Ar} {M : Nat → Mini} {j : Nat}, ArgsR K F j vs as M → vs.length = as.length
  | [], [], _, _, _ => rfl
  | v :: vs, .ro S :: as, M, j, h => by rw [List.length_cons, List.length_cons, ArgsR.len h.2]
  | v :: vs, .mu G :: as, M, j, h => by rw [List.length_cons, List.length_cons, ArgsR.len h.2]
  | [], _ :: _, _, _, h => h.elim
  | _ :: _, [], _, _, h => h.elim
theorem envIn_len (ad : Nat → Addr) : ∀ (as : List Ar) (j : Nat), (envIn ad j as).length = as.length
  | [], _ => rfl
  | .ro S :: as, j => by rw [envIn, List.length_cons, List.length_cons, envIn_len ad as]
  | .mu G :: as, j => by rw [envIn, List.length_cons, List.length_cons, envIn_len ad as]
theorem envIn_at {F : Hp} {ws : List V} : ∀ {vs : List V} {as : List Ar} {M : Nat → Mini} {j : Nat}, ArgsR K F j vs as M → (∀ k v, vs[k]? = some v → ws[j + k]? = some v) → ∀ (i : Nat) (S : Slot), (envIn (adOf ws) j as)[i]? = some (some S) → ∃ v, vs[i]? = some v ∧ S.R K F v (M (j + i))
  | [], [], M, j, _, _, i, S, h => by rw [envIn] at h; simp at h
  | v :: vs, .ro T :: as, M, j, h, e, 0, S, hS => by
    rw [envIn] at hS
    obtain rfl : T = S := by simpa using hS
    refine ⟨v, rfl, ?_⟩
    rw [Nat.add_zero, h.1.2]
    exact h.1.1
  | v :: vs, .ro T :: as, M, j, h, e, i + 1, S, hS => by
    rw [envIn, List.getElem?_cons_succ] at hS
    obtain ⟨u, h1, h2⟩ := envIn_at h.2 (fun k u hk => by rw [show j + 1 + k = j + (k + 1) by omega]; exact e (k + 1) u (by simpa using hk)) i S hS
    exact ⟨u, by simpa using h1, by rw [show j + (i + 1) = j + 1 + i by omega]; exact h2⟩
  | v :: vs, .mu G :: as, M, j, h, e, 0, S, hS => by
    rw [envIn] at hS
    have hS : G.G (some (adOf ws j)) = S := by simpa using hS
    subst hS
    refine ⟨v, rfl, ?_⟩
    rw [Nat.add_zero]
    refine (G.ok _ K F v (M j)).mpr ⟨?_, h.1⟩
    obtain ⟨a, rfl, _⟩ := ((G.ok none K F v (M j)).mp h.1).1
    refine ⟨a, rfl, fun q hq => ?_⟩
    have := e 0 _ rfl
    rw [Nat.add_zero] at this
    have e2 : adOf ws j = a := by unfold adOf; rw [this]
    rw [← e2]; exact Option.some.inj hq
  | v :: vs, .mu G :: as, M, j, h, e, i + 1, S, hS => by
    rw [envIn, List.getElem?_cons_succ] at hS
    obtain ⟨u, h1, h2⟩ := envIn_at h.2 (fun k u hk => by rw [show j + 1 + k = j + (k + 1) by omega]; exact e (k + 1) u (by simpa using hk)) i S hS
    exact ⟨u, by simpa using h1, by rw [show j + (i + 1) = j + 1 + i by omega]; exact h2⟩
  | [], _ :: _, _, _, h, _, _, _, _ => h.elim
  | _ :: _, [], _, _, h, _, _, _, _ => h.elim
theorem muIx_val {F : Hp} {ws : List V} : ∀ {vs : List V} {as : List Ar} {M : Nat → Mini} {j : Nat}, ArgsR K F j vs as M → (∀ k v, vs[k]? = some v → ws[j + k]? = some v) → ∀ i ∈ muIx j as, ws[i]? = some (.ref (adOf ws i))
  | [], [], M, j, _, _, i, h => nomatch h
  | v :: vs, .ro T :: as, M, j, h, e, i, hi => muIx_val (as := as) h.2 (fun k u hk => by rw [show j + 1 + k = j + (k + 1) by omega]; exact e (k + 1) u (by simpa using hk)) i hi
  | v :: vs, .mu G :: as, M, j, h, e, i, hi => by
    rcases List.mem_cons.mp hi with q | q
    · subst q
      obtain ⟨a, rfl, _⟩ := ((G.ok none K F v (M i)).mp h.1).1
      have := e 0 _ rfl
      rw [Nat.add_zero] at this
      have e2 : adOf ws i = a := by unfold adOf; rw [this]
      rw [this, e2]
    · exact muIx_val (as := as) h.2 (fun k u hk => by rw [show j + 1 + k = j + (k + 1) by omega]; exact e (k + 1) u (by simpa using hk)) i q
  | [], _ :: _, _, _, h, _, _, _ => h.elim
  | _ :: _, [], _, _, h, _, _, _ => h.elim
theorem OutIn.outs {F : Hp} {ws : List V} {ρ : Env} {σ : St} {M : Nat → Mini} (at_ : ∀ (i : Nat) (S : Slot), ρ[i]? = some (some S) → ∃ v, σ[i]? = some (some v) ∧ S.R K F v (M i)) : ∀ {js : List Nat} {outs : List Asl}, (∀ i ∈ js, ws[i]? = some (.ref (adOf ws i))) → OutIn (adOf ws) ρ js outs → OutsR K F ws M js outs
  | [], [], _, _ => trivial
  | j :: js, G :: outs, hw, h => by
    refine ⟨?_, OutIn.outs at_ (fun i hi => hw i (List.mem_cons_of_mem _ hi)) h.2⟩
    obtain ⟨v, _, hR⟩ := at_ j _ h.1
    obtain ⟨⟨a, rfl, ha⟩, hR2⟩ := (G.ok _ K F v (M j)).mp hR
    refine ⟨_, hw j List.mem_cons_self, ?_⟩
    rw [← ha _ rfl]
    exact hR2
  | [], _ :: _, _, h => h.elim
  | _ :: _, [], _, h => h.elim
theorem OutsR.congr {F : Hp} {ws : List V} {M M' : Nat → Mini} : ∀ {js : List Nat} {outs : List Asl}, (∀ i ∈ js, M i = M' i) → OutsR K F ws M js outs → OutsR K F ws M' js outs
  | [], [], _, _ => trivial
  | j :: js, G :: outs, e, h => ⟨by rw [← e j List.mem_cons_self]; exact h.1, OutsR.congr (fun i hi => e i (List.mem_cons_of_mem _ hi)) h.2⟩
  | [], _ :: _, _, h => h.elim
  | _ :: _, [], _, h => h.elim
theorem callee_ofM (D : Df K mg x st) (S : FnScope N ps (defScope st))
    (hb : ∀ (kV doc pm : Value) (an : Option Addr) (cdv ct : Value) (us : List Value), us.length = ps.length → bindArgs (PySem.W.fnOf x x (defArgs st) (defBody st) (defScope st) .none kV doc pm an cdv ct) ⟨us, []⟩ = pure (ps.zip us))
    (body : ∀ (f : Addr) (cdv : Value) (A : Around) (outer : List PySem.Env) (s : Shared) (H : Hp) (E : XK), Ctx (cxD P w K mg base N x st f cdv A outer s H E) C (fun c σ H => E (.ref (C c)) none H) k → ∀ i, pre i → ∀ ad : Nat → Addr,
      Sxs (cxD P w K mg base N x st f cdv A outer s H E) (fun c σ H => E (.ref (C c)) none H) (defBody st) (envIn ad 0 (ins i) ++ List.replicate (N.length - (ins i).length) none) (bodyM ad (muIx 0 (ins i)) (r i))) : Callee P w K mg base (k + 1) x (spM K C ps.length ins pre r) := by
  obtain ⟨f, fd, F, hm⟩ := D
  refine ⟨f, fd, ps, F.okX S (fun vs H Q E ⟨i, F, M, _, h, _⟩ => h) (fun cdv A outer s H vs Q E hr h => ?_), hm, F.kp, F.binds hb⟩
  obtain ⟨i, F0, M, s0, hl, hv, hM, ap, hp, q1, q2⟩ := h
  have tk : Takes (cxD P w K mg base N x st f cdv A outer s H E) (fun cls d σ H => ∃ c, cls = .ref (C c) ∧ d = none ∧ E (.ref (C c)) none H) :=
    Takes.imp (takes_of rfl rfl rfl rfl) fun cls d σ H ⟨c, e1, e2, z⟩ => by subst e1 e2; exact z
  have cc : Ctx (cxD P w K mg base N x st f cdv A outer s H E) C (fun c σ H => E (.ref (C c)) none H) k := ⟨rfl, hr, S.nd, passes_of rfl, tk⟩
  have b := body f cdv A outer s H E cc i hp (adOf vs)
  have hlen := ArgsR.len hv
  have hvz : ∀ k v, vs[k]? = some v → vs[0 + k]? = some v := fun k v hk => by rw [Nat.zero_add]; exact hk
  have el : N.length - (ins i).length = N.length - vs.length := by rw [hlen]
  let B : Hp := fun a => open Classical in if (∃ j o, (a, o) ∈ M j) then none else H a
  have hB1 : ∀ j a o, (a, o) ∈ M j → B a = none := fun j a o h => by
    show (open Classical in if (∃ j o, (a, o) ∈ M j) then none else H a) = none
    rw [if_pos ⟨j, o, h⟩]
  have hB2 : ∀ a o, B a = some o → H a = some o := fun a o h => by
    have h : (open Classical in if (∃ j o, (a, o) ∈ M j) then none else H a) = some o := h
    split at h
    · cases h
    · exact h
  have hB3 : ∀ a, B a = none → H a = none ∨ ∃ k o', (a, o') ∈ M k := fun a h => by
    have h : (open Classical in if (∃ j o, (a, o) ∈ M j) then none else H a) = none := h
    split at h
    · rename_i z; exact .inr z
    · exact .inl h
  have ok : EOk K (envIn (adOf vs) 0 (ins i) ++ List.replicate (N.length - (ins i).length) none) F0 (start N vs) H M := by
    rw [el]
    refine ⟨?_, s0, fun j S' hj => ?_, fun j a o h => hM j a o h, fun j k' a o o' h h' => ap j k' a o o' h h'⟩
    · show (vs.map some ++ List.replicate (N.length - vs.length) none).length = _
      simp [envIn_len, hlen]
    · have hlt : j < (envIn (adOf vs) 0 (ins i)).length := by
        by_cases q : j < (envIn (adOf vs) 0 (ins i)).length
        · exact q
        · rw [List.getElem?_append_right (by omega), List.getElem?_replicate] at hj
          split at hj <;> cases hj
      rw [List.getElem?_append_left hlt] at hj
      obtain ⟨v, h1, h2⟩ := envIn_at hv hvz j S' hj
      rw [Nat.zero_add] at h2
      refine ⟨v, ?_, h2⟩
      show (vs.map some ++ List.replicate (N.length - vs.length) none)[j]? = _
      rw [List.getElem?_append_left (by rw [List.length_map, hlen, ← envIn_len (adOf vs) (ins i) 0]; exact hlt), List.getElem?_map, h1]
      rfl
  have hmv := muIx_val hv hvz
  have post : ∀ {F' H' : Hp} {ρ : Env} {σ : St} {M' : Nat → Mini} {m : Mini} {N' : Nat → Mini}, PInv K B F0 ρ F' σ H' M' → (∀ j y, y ∈ N' j → ∃ l, y ∈ M' l) → (∀ y, y ∈ m → ∃ l, y ∈ M' l) → (∀ j k a o o', (a, o) ∈ N' j → (a, o') ∈ N' k → j = k) → (∀ j a o o', (a, o) ∈ m → (a, o') ∉ N' j) → Post F0 H M F' H' m N' := by
    intro F' H' ρ σ M' m N' y n1 n2 n3 n4
    refine ⟨y.f0, y.ok.sub, fun a o h1 h2 => y.base a o ?_, fun a o h1 h2 => hB3 a (y.nb a o h1 h2), fun j a o h => ?_, fun a o h => ?_, n3, n4⟩
    · show (open Classical in if (∃ j o, (a, o) ∈ M j) then none else H a) = some o
      rw [if_neg (fun ⟨j, o', z⟩ => h2 j o' z)]
      exact h1
    · obtain ⟨l, hl⟩ := n1 j _ h
      exact ⟨(y.ok.own l a o hl).1, (y.ok.own l a o hl).2, hB3 a (y.mb l a o hl)⟩
    · obtain ⟨l, hl⟩ := n2 _ h
      exact ⟨(y.ok.own l a o hl).1, (y.ok.own l a o hl).2, hB3 a (y.mb l a o hl)⟩
  refine ⟨_, pss_Sxs _ _ _, _, _, F0, _, B, F0, b, ⟨ok, hB2, .refl _, (fun a o h1 h2 => by rw [h1] at h2; cases h2), hB1⟩, fun o ho => ?_⟩
  cases o with
  | next ρ =>
    intro F' σ H' M' y
    obtain ⟨outs, h1, h2⟩ := ho
    exact q1 _ outs h1 .non F' H' [] M' (post y (fun j u hu => ⟨j, hu⟩) (fun _ z => nomatch z) y.ok.apart (fun _ _ _ _ z => nomatch z)) ⟨rfl, .non⟩ (OutIn.outs y.ok.at_ hmv h2)
  | ret S' ρ =>
    intro v F' σ H' M' y
    obtain ⟨outs, h1, h2⟩ := ho
    obtain ⟨v', e, hv'⟩ := y.ok.at_ 0 S' rfl
    have e' : v = v' := by simpa using e
    subst e'
    refine q1 S' outs h1 v F' H' (M' 0) (fun j => M' (j + 1)) (post y (fun j u hu => ⟨j + 1, hu⟩) (fun u hu => ⟨0, hu⟩) (fun j k' a o o' z z' => by have := y.ok.apart _ _ _ _ _ z z'; omega) (fun j a o o' z z' => by have := y.ok.apart _ _ _ _ _ z z'; omega)) hv' ?_
    exact OutIn.outs (ρ := ρ) (σ := σ) (M := fun j => M' (j + 1)) (fun j T hT => y.ok.at_ (j + 1) T (by simpa using hT)) hmv h2
  | brk ρ => exact ho.elim
  | cont ρ => exact ho.elim
  | raise c ρ =>
    intro F' σ H' M' y
    obtain ⟨outs, h1, h2⟩ := ho
    exact q2 c outs h1 F' H' M' (post y (fun j u hu => ⟨j, hu⟩) (fun _ z => nomatch z) y.ok.apart (fun _ _ _ _ z => nomatch z)) (OutIn.outs y.ok.at_ hmv h2)
end
end PV

/-! The pure-value layer: what is read of a call with things that names own. -/
namespace PV
open PySem PySem.Spec PyProof.Rows L2
section
variable {X : Cx} {W : Wc} {ρ ρ' : Env} {e a b : Expr} {pos : Pos} {C : Ec → Addr} {k : Nat} {rest : List Stmt} {Φ : Out → Prop}
theorem rv_borrow {d : PyData} (f : FrzL ρ ρ') (h : Rv X W ρ' e d) : Rv X W ρ e d := fun pins s σ F H M Q I ok q => h pins s σ H H _ Q I (ok.frz f) fun v F' H' x dv => q v F H' (Ext.under ok.sub x) dv
theorem sxs_retS {S : Slot} (he : FrS X W ρ e S) (k : Φ (.ret S ρ)) : Sxs X W (.Return (some e) pos :: rest) ρ Φ :=
  sxs_of (ps_ret he.pe) fun σ F H M B F0 D ok q => ⟨F, M, ok.ok, fun v F' H' m x hv hm => q _ k v F' σ H' _ ((ok.ext x).push hv fun a o z => by
    obtain ⟨y1, y2, y3⟩ := hm a o z
    refine ⟨y1, y2, ok.base.free y3, fun j o' hm' => ?_⟩
    have w := (ok.ok.own j a o' hm').1
    rw [y3] at w; cases w)⟩
theorem Ev.sl {d : PyData} (h : Ev X W ρ e d) : FrS X W ρ e (fz d) := fun pins s σ F H M Q I ok q => h pins s σ F H M Q I ok (fun d' hd v F' H' x dv => by cases hd; exact q v F' H' [] x ⟨rfl, dv⟩ fun _ _ z => nomatch z) fun c hc => nomatch hc
theorem FrS.to {S S' : Slot} (h : FrS X W ρ e S) (q : S = S') : FrS X W ρ e S' := q ▸ h
end
end PV

/-! Places, widths: walked. -/
namespace Tl
open PySem PySem.Spec PyProof.Rows L2 PV
def plT (p : Plc) : T := .tup none [.fz (.int p.1), .fz (.int p.2)]
theorem plT_er (p : Plc) : (plT p).er = plD p := by rw [plT, er_tup]; rfl
section
variable {P : Program} {w : World} {K : PySem.W.Frag} {mg : Str → Option Value} {base : Heap} {C : Ec → Addr}
abbrev C_is_later (P : Program) (w : World) (K : PySem.W.Frag) (mg : Str → Option Value) (base : Heap) (C : Ec → Addr) := Callee P w K mg base 1 "is_later" (spP K C 2 (fun i : Plc × Plc => [fz (plD i.1), fz (plD i.2)]) (fun _ => True) (fun i => is (.ok (fz (.bool (decide (ltP i.2 i.1)))))))
theorem ok_is_later (D : Df K mg "is_later" s_is_later) : C_is_later P w K mg base C := by
  refine callee_of D sc_is_later (fun _ _ _ _ _ _ us hl => match us, hl with | [_, _], _ => rfl) (fun f cdv A outer s H E c i _ => ?_)
  obtain ⟨a, b⟩ := i
  show Sxs _ _ _ [some (fz (plD a)), some (fz (plD b))] _
  refine sxs_if (tst_cm (cm_eq (i := (a.1 : Int)) (j := (b.1 : Int)) (ev_ixT (ev_var 0 rfl) ev_int rfl) (ev_ixT (ev_var 1 rfl) ev_int rfl))) (fun h => ?_) (fun h => ?_)
  · have h : (a.1 : Int) = b.1 := of_decide_eq_true h
    refine sxs_ret ((ev_cm (cm_gt (i := (a.2 : Int)) (j := (b.2 : Int)) (ev_ixT (ev_var 0 rfl) ev_int rfl) (ev_ixT (ev_var 1 rfl) ev_int rfl))).to (e := .bool (decide (ltP b a))) ?_) rfl
    congr 1; rw [decide_eq_decide]; unfold ltP; omega
  · have h : ¬ (a.1 : Int) = b.1 := of_decide_eq_false h
    refine sxs_nil ?_
    refine sxs_ret ((ev_cm (cm_gt (i := (a.1 : Int)) (j := (b.1 : Int)) (ev_ixT (ev_var 0 rfl) ev_int rfl) (ev_ixT (ev_var 1 rfl) ev_int rfl))).to (e := .bool (decide (ltP b a))) ?_) rfl
    congr 1; rw [decide_eq_decide]; unfold ltP; omega
abbrev C_later (P : Program) (w : World) (K : PySem.W.Frag) (mg : Str → Option Value) (base : Heap) (C : Ec → Addr) := Callee P w K mg base 2 "later" (spP K C 2 (fun i : Plc × Plc => [fz (plD i.1), fz (plD i.2)]) (fun _ => True) (fun i => is (.ok (fz (plD (laterP i.1 i.2))))))
theorem ok_later (G_is_later : C_is_later P w K mg base C) (D : Df K mg "later" s_later) : C_later P w K mg base C := by
  refine callee_of D sc_later (fun _ _ _ _ _ _ us hl => match us, hl with | [_, _], _ => rfl) (fun f cdv A outer s H E c i _ => ?_)
  obtain ⟨a, b⟩ := i
  show Sxs _ _ _ [some (fz (plD a)), some (fz (plD b))] _
  refine sxs_if (tst_val (ev_call c G_is_later (b, a) trivial (fun _ h => h) (as_cons (Ev.s (ev_var 1 rfl)) (as_cons (Ev.s (ev_var 0 rfl)) as_nil)))) (fun h => ?_) (fun h => ?_)
  · have h : ltP a b := of_decide_eq_true h
    refine sxs_ret (ev_var 1 rfl) ?_
    show _ = _
    rw [laterP, if_pos h]
  · have h : ¬ ltP a b := of_decide_eq_false h
    refine sxs_nil ?_
    refine sxs_ret (ev_var 0 rfl) ?_
    show _ = _
    rw [laterP, if_neg h]
abbrev C_is_odd (P : Program) (w : World) (K : PySem.W.Frag) (mg : Str → Option Value) (base : Heap) (C : Ec → Addr) := Callee P w K mg base 1 "is_odd" (spP K C 2 (fun i : Frm × Nat => [fz (frD i.1), fz (.int i.2)]) (fun _ => True) (fun i => is (.ok (fz (.bool (oddB i.1 i.2))))))
theorem ok_is_odd (D : Df K mg "is_odd" s_is_odd) : C_is_odd P w K mg base C := by
  refine callee_of D sc_is_odd (fun _ _ _ _ _ _ us hl => match us, hl with | [_, _], _ => rfl) (fun f cdv A outer s H E c i _ => ?_)
  obtain ⟨fm, g⟩ := i
  show Sxs _ _ _ [some (fz (frD fm)), some (fz (.int g))] _
  refine sxs_ret ((ev_cm (cm_eq (i := ((fm.first : Int) + g) % 2) (ev_mod (by decide) (ev_add (ev_ixT (ev_var 0 rfl) ev_int rfl) (ev_var 1 rfl)) ev_int) ev_int)).to (e := .bool (oddB fm g)) ?_) rfl
  unfold oddB
  congr 1; rw [decide_eq_decide]; omega
abbrev C_rows_on (P : Program) (w : World) (K : PySem.W.Frag) (mg : Str → Option Value) (base : Heap) (C : Ec → Addr) := Callee P w K mg base 1 "rows_on" (spP K C 3 (fun i : Frm × Plc × Nat => [fz (frD i.1), fz (plD i.2.1), fz (.int i.2.2)]) (fun _ => True) (fun i => is (.ok (tr (plT (rowsOn i.1 i.2.1 i.2.2))))))
theorem ok_rows_on (D : Df K mg "rows_on" s_rows_on) : C_rows_on P w K mg base C := by
  refine callee_of D sc_rows_on (fun _ _ _ _ _ _ us hl => match us, hl with | [_, _, _], _ => rfl) (fun f cdv A outer s H E c i _ => ?_)
  obtain ⟨fm, p, n⟩ := i
  show Sxs _ _ _ [some (fz (frD fm)), some (fz (plD p)), some (fz (.int n))] _
  refine sxs_if (tst_cm (cm_ge (i := (p.2 : Int) + n) (j := (fm.high : Int)) (ev_add (ev_ixT (ev_var 1 rfl) ev_int rfl) (ev_var 2 rfl)) (ev_ixT (ev_var 0 rfl) ev_int rfl))) (fun h => ?_) (fun h => ?_)
  · have h : (fm.high : Int) ≤ p.2 + n := of_decide_eq_true h
    refine sxs_retT (FrT.to (t_tup (ta_cons (Ev.t (ev_add (ev_ixT (ev_var 1 rfl) ev_int rfl) ev_int)) (ta_cons (Ev.t ev_int) ta_nil))) (u := plT (p.1 + 1, 0)) rfl) ?_
    show _ = Except.ok (tr (plT (rowsOn fm p n)))
    rw [rowsOn, if_pos (by omega)]
  · have h : ¬ (fm.high : Int) ≤ p.2 + n := of_decide_eq_false h
    refine sxs_nil ?_
    refine sxs_retT (FrT.to (t_tup (ta_cons (Ev.t (ev_ixT (ev_var 1 rfl) ev_int rfl)) (ta_cons (Ev.t (ev_add (ev_ixT (ev_var 1 rfl) ev_int rfl) (ev_var 2 rfl))) ta_nil))) (u := plT (p.1, p.2 + n)) rfl) ?_
    show _ = Except.ok (tr (plT (rowsOn fm p n)))
    rw [rowsOn, if_neg (by omega)]
abbrev C_behind (P : Program) (w : World) (K : PySem.W.Frag) (mg : Str → Option Value) (base : Heap) (C : Ec → Addr) := Callee P w K mg base 2 "behind" (spP K C 3 (fun i : Frm × Plc × Nat => [fz (frD i.1), fz (plD i.2.1), fz (.int i.2.2)]) (fun _ => True) (fun i => is (.ok (tr (plT (behindP i.1 i.2.1 i.2.2))))))
theorem ok_behind (G_rows_on : C_rows_on P w K mg base C) (G_is_odd : C_is_odd P w K mg base C) (D : Df K mg "behind" s_behind) : C_behind P w K mg base C := by
  refine callee_of D sc_behind (fun _ _ _ _ _ _ us hl => match us, hl with | [_, _, _], _ => rfl) (fun f cdv A outer s H E c i _ => ?_)
  obtain ⟨fm, p, n⟩ := i
  show Sxs _ _ _ [some (fz (frD fm)), some (fz (plD p)), some (fz (.int n)), none] _
  refine sxs_if (tst_cm (cm_eq (ev_var 2 rfl) ev_int)) (fun h => ?_) (fun h => ?_)
  · have h : (n : Int) = 0 := of_decide_eq_true h
    refine sxs_retT (FrT.to (t_tup (ta_cons (Ev.t (ev_ixT (ev_var 1 rfl) ev_int rfl)) (ta_cons (Ev.t (ev_ixT (ev_var 1 rfl) ev_int rfl)) ta_nil))) (u := plT p) rfl) ?_
    show _ = Except.ok (tr (plT (behindP fm p n)))
    rw [behindP, if_pos (by omega)]
  · have h : ¬ (n : Int) = 0 := of_decide_eq_false h
    refine sxs_nil ?_
    refine sxs_if (tst_cm (cm_lt (ev_var 2 rfl) ev_int)) (fun h2 => ?_) (fun h2 => ?_)
    · have h2 : (n : Int) < 3 := of_decide_eq_true h2
      refine sxs_retT (t_call c G_rows_on (fm, p, n) trivial (fun _ h => h) (as_cons (Ev.s (ev_var 0 rfl)) (as_cons (Ev.s (ev_var 1 rfl)) (as_cons (Ev.s (ev_var 2 rfl)) as_nil)))) ?_
      show _ = Except.ok (tr (plT (behindP fm p n)))
      rw [behindP, if_neg (by omega), if_pos (by omega)]
    · have h2 : ¬ (n : Int) < 3 := of_decide_eq_false h2
      refine sxs_nil ?_
      refine sxs_set 3 ((ev_add (ev_ixT (ev_var 1 rfl) ev_int rfl) ev_int).to (e := .int ((p.1 + 1 : Nat) : Int)) rfl) ?_ c.nd
      refine sxs_if (t := decide (n = 4 ∧ oddB fm (p.1 + 1) = false)) (tst_and2 (tst_cm (cm_eq (ev_var 2 rfl) ev_int)) (fun _ => tst_not (tst_val (ev_call c G_is_odd (fm, p.1 + 1) trivial (fun _ h => h) (as_cons (Ev.s (ev_var 0 rfl)) (as_cons (Ev.s (ev_var 3 rfl)) as_nil))))) (by
          rw [Bool.decide_and]
          congr 1
          · rw [decide_eq_decide]; omega
          · cases oddB fm (p.1 + 1) <;> rfl)) (fun h3 => ?_) (fun h3 => ?_)
      · have h3 := of_decide_eq_true h3
        refine sxs_set 3 ((ev_add (ev_var 3 rfl) ev_int).to (e := .int ((p.1 + 2 : Nat) : Int)) (by congr 1)) ?_ c.nd
        refine sxs_nil ?_
        refine sxs_retT (FrT.to (t_tup (ta_cons (Ev.t (ev_var 3 rfl)) (ta_cons (Ev.t ev_int) ta_nil))) (u := plT (p.1 + 2, 0)) rfl) ?_
        show _ = Except.ok (tr (plT (behindP fm p n)))
        rw [behindP, if_neg (by omega), if_neg (by omega), if_pos h3]
      · have h3 := of_decide_eq_false h3
        refine sxs_nil ?_
        refine sxs_retT (FrT.to (t_tup (ta_cons (Ev.t (ev_var 3 rfl)) (ta_cons (Ev.t ev_int) ta_nil))) (u := plT (p.1 + 1, 0)) rfl) ?_
        show _ = Except.ok (tr (plT (behindP fm p n)))
        rw [behindP, if_neg (by omega), if_neg (by omega), if_neg h3]
abbrev C_first_from (P : Program) (w : World) (K : PySem.W.Frag) (mg : Str → Option Value) (base : Heap) (C : Ec → Addr) := Callee P w K mg base 2 "first_from" (spP K C 3 (fun i : Frm × Plc × Nat => [fz (frD i.1), fz (plD i.2.1), fz (.int i.2.2)]) (fun _ => True) (fun i => is (.ok (tr (plT (firstFrom i.1 i.2.1 i.2.2))))))
theorem ok_first_from (G_is_odd : C_is_odd P w K mg base C) (D : Df K mg "first_from" s_first_from) : C_first_from P w K mg base C := by
  refine callee_of D sc_first_from (fun _ _ _ _ _ _ us hl => match us, hl with | [_, _, _], _ => rfl) (fun f cdv A outer s H E c i _ => ?_)
  obtain ⟨fm, p, n⟩ := i
  show Sxs _ _ _ [some (fz (frD fm)), some (fz (plD p)), some (fz (.int n))] _
  refine sxs_if (t := decide (n = 4 ∧ oddB fm p.1 = false)) (tst_and2 (tst_cm (cm_eq (ev_var 2 rfl) ev_int)) (fun _ => tst_not (tst_val (ev_call c G_is_odd (fm, p.1) trivial (fun _ h => h) (as_cons (Ev.s (ev_var 0 rfl)) (as_cons (Ev.s (ev_ixT (ev_var 1 rfl) ev_int rfl)) as_nil))))) (by
      rw [Bool.decide_and]
      congr 1
      · rw [decide_eq_decide]; omega
      · cases oddB fm p.1 <;> rfl)) (fun h => ?_) (fun h => ?_)
  · have h := of_decide_eq_true h
    refine sxs_retT (FrT.to (t_tup (ta_cons (Ev.t (ev_add (ev_ixT (ev_var 1 rfl) ev_int rfl) ev_int)) (ta_cons (Ev.t ev_int) ta_nil))) (u := plT (p.1 + 1, 0)) rfl) ?_
    show _ = Except.ok (tr (plT (firstFrom fm p n)))
    rw [firstFrom, if_pos h]
  · have h := of_decide_eq_false h
    refine sxs_nil ?_
    refine sxs_retT (FrT.to (t_tup (ta_cons (Ev.t (ev_ixT (ev_var 1 rfl) ev_int rfl)) (ta_cons (Ev.t (ev_ixT (ev_var 1 rfl) ev_int rfl)) ta_nil))) (u := plT p) rfl) ?_
    show _ = Except.ok (tr (plT (firstFrom fm p n)))
    rw [firstFrom, if_neg h]
end
end Tl

/-! The pure-value layer: x += n. -/
namespace PV
open PySem PySem.Spec PyProof.Rows L2
section
variable {X : Cx} {W : Wc} {ρ ρ' : Env} {e a b : Expr} {pos : Pos} {C : Ec → Addr} {k : Nat} {rest : List Stmt} {Φ : Out → Prop}
theorem sxs_augAdd (i : Nat) {x : Str} {pos' : Pos} {n m : Int} (hd : ρ[i]? = some (some (fz (.int n)))) (he : Ev X W ρ e (.int m)) (k : Sxs X W rest (ρ.set i (some (fz (.int (n + m))))) Φ) (hN : X.N.Nodup)
    (hi : X.N[i]? = some x := by rfl) (hx : Loc X.env.scope x := by first | exact Or.inl rfl | exact Or.inr rfl) (hf : X.fn x = true ∨ X.env.scope.names.lookup x = some .local := by first | exact .inl rfl | exact .inr rfl) : Sxs X W (.AugAssign (.Name x pos') .Add e pos :: rest) ρ Φ :=
  sxs_of (ps_aug hN hi hx he.pe ip_add hf) fun σ F H M B F0 D ok q => by
    obtain ⟨v, e1, _, dv⟩ := ok.ok.at_ i _ hd
    exact ⟨v, e1, rd ok.ok fun y F1 H1 x1 dy => ⟨n, m, dq_int dv, dq_int dy, _, Φ, F1, _, B, F0, k, (ok.ext x1).setF (.int _), q⟩⟩
end
end PV

/-! Reasons: walked. -/
namespace Tl
open PySem PySem.Spec PyProof.Rows L2 PV
theorem nd_t {p : Prop} [Decidable p] (h : (!decide p) = true) : ¬ p := fun z => by rw [decide_eq_true z] at h; cases h
theorem nd_f {p : Prop} [Decidable p] (h : (!decide p) = false) : p := Classical.byContradiction fun z => by rw [decide_eq_false z] at h; cases h
theorem foot_high_eq (f : Frm) (ps : List Plc) (foot : List Say) : highBy f ps foot = if (filled f ps foot).any (fun r => decide (f.wide < r.length)) then f.high else min (filled f ps foot).length f.high := by
  by_cases h : ∀ s ∈ foot, (said f ps s).length ≤ f.wide
  · have hw := filled_wide (f := f) (ps := ps) h
    rw [if_neg (by rw [Bool.not_eq_true, List.any_eq_false]; intro r hr; have := hw r hr; simpa using this)]
    unfold highBy
    rw [highGo_grow _ _ _ (fun x hx => by obtain ⟨s, hs, rfl⟩ := List.mem_map.mp hx; exact h s hs), ← filled_len]
  · have h : ∃ s ∈ foot, f.wide < (said f ps s).length := by
      apply Classical.byContradiction
      intro z
      exact h fun s hs => Nat.le_of_not_lt fun y => z ⟨s, hs, y⟩
    obtain ⟨s, hs, hlt⟩ := h
    have key : ∀ (foot : List Say) (rows : List Str), ((∃ r ∈ rows, f.wide < r.length) ∨ ∃ s ∈ foot, f.wide < (said f ps s).length) → ∃ r ∈ (foot.map (said f ps)).foldl (fill1 f.wide) rows, f.wide < r.length := by
      intro foot
      induction foot with
      | nil => intro rows h; exact h.elim id fun ⟨_, z, _⟩ => nomatch z
      | cons s foot ih =>
        intro rows h
        refine ih _ ?_
        rcases h with ⟨r, hr, h2⟩ | ⟨s', hs', h2⟩
        · left
          unfold fill1
          cases e : rows.getLast? with
          | none => exact ⟨r, List.mem_append_left _ hr, h2⟩
          | some l =>
            dsimp only
            split
            · rename_i hw
              obtain ⟨i, hi⟩ := List.mem_iff_getElem?.mp hr
              refine ⟨r, List.mem_iff_getElem?.mpr ⟨i, ?_⟩, h2⟩
              rw [List.getElem?_set_ne, hi]
              intro z
              rw [← z, ← List.getLast?_eq_getElem?, e] at hi
              obtain rfl := Option.some.inj hi
              omega
            · exact ⟨r, List.mem_append_left _ hr, h2⟩
        · rcases List.mem_cons.mp hs' with e | e
          · subst e
            left
            unfold fill1
            cases e : rows.getLast? with
            | none => exact ⟨_, List.mem_append_right _ List.mem_cons_self, h2⟩
            | some l =>
              dsimp only
              split
              · omega
              · exact ⟨_, List.mem_append_right _ List.mem_cons_self, h2⟩
          · exact .inr ⟨s', e, h2⟩
    obtain ⟨r, hr, h2⟩ := key foot [] (.inr ⟨s, hs, hlt⟩)
    have hany : ((filled f ps foot).any fun r => decide (f.wide < r.length)) = true := List.any_eq_true.mpr ⟨r, hr, decide_eq_true h2⟩
    rw [if_pos hany]
    exact highGo_high _ _ _ ⟨_, List.mem_map.mpr ⟨s, hs, rfl⟩, hlt⟩
def oS : Option Plc → Slot
  | none => fz .none
  | some p => tr (plT p)
def byAhead (f : Frm) (ws : List Wrd) (low : List Plc) (i : Nat) (j : Int) : Option Plc := if j = i - 1 then some (rBehind f ws low i) else none
def byWidth (f : Frm) (ws : List Wrd) (low : List Plc) (i : Nat) (j : Int) : Option Plc := if j < 0 ∨ (i : Int) ≤ j then none else if f.wide < (i - j.toNat) + sumR (ownW f low ws) j.toNat (i - j.toNat + 1) then some (behindP f (plAt low j.toNat) 1) else none
def byHeight (f : Frm) (ws : List Wrd) (low : List Plc) (i : Nat) (j : Int) : Option Plc := if j < 0 ∨ (i : Int) < j ∨ (plAt low j.toNat).1 < (plAt low i).1 then none else if f.high < (plAt low i).2 + 1 + sumR (ftW f low ws) j.toNat (i - j.toNat + 1) then some ((plAt low i).1 + 1, 0) else none
def byNext (f : Frm) (ws : List Wrd) (low : List Plc) (i : Nat) (j : Int) : Option Plc := if j = i + 1 ∧ i + 1 < low.length ∧ (wdAt ws (i + 1)).kept = true then some ((plAt low (i + 1)).1, 0) else none
def byItself (f : Frm) (ws : List Wrd) (low : List Plc) (i : Nat) (j : Int) : Option Plc := if j = i ∧ (f.wide < ownW f low ws i ∨ f.high ≤ ftW f low ws i) then some (f.most, 0) else none
structure InBy where
  f : Frm
  ws : List Wrd
  low : List Plc
  i : Nat
  j : Int
abbrev insBy (i : InBy) : List Slot := [fz (bkD (i.f, i.ws)), fz (.list (i.low.map plD)), fz (.int i.i), fz (.int i.j)]
abbrev preBy (i : InBy) : Prop := okBk i.f i.ws i.low ∧ i.i < i.low.length
section
variable {P : Program} {w : World} {K : PySem.W.Frag} {mg : Str → Option Value} {base : Heap} {C : Ec → Addr}
abbrev C_wide_of (P : Program) (w : World) (K : PySem.W.Frag) (mg : Str → Option Value) (base : Heap) (C : Ec → Addr) := Callee P w K mg base 3 "wide_of" (spP K C 3 insSay preSay (fun i => is (.ok (fz (.int ((said i.1 i.2.2 i.2.1).length : Nat))))))
theorem ok_wide_of (Bt : Blt mg) (G_said : C_said P w K mg base C) (D : Df K mg "wide_of" s_wide_of) : C_wide_of P w K mg base C := by
  refine callee_of D sc_wide_of (fun _ _ _ _ _ _ us hl => match us, hl with | [_, _, _], _ => rfl) (fun f cdv A outer s H E c i hi => ?_)
  obtain ⟨fm, sy, ps⟩ := i
  have hl := said_len hi.1 hi.2.1 hi.2.2
  show Sxs _ _ _ [some (fz (frD fm)), some (fz (sayD sy)), some (fz (.list (ps.map plD)))] _
  exact sxs_ret (ev_lenS Bt ((ev_call c G_said (fm, sy, ps) hi (fun _ h => h) (as_cons (Ev.s (ev_var 0 rfl)) (as_cons (Ev.s (ev_var 1 rfl)) (as_cons (Ev.s (ev_var 2 rfl)) as_nil)))).to (e := .str (said fm ps sy)) rfl) (szl (by have : (said fm ps sy).length ≤ 100 := hl; omega))) rfl
abbrev C_foot_high (P : Program) (w : World) (K : PySem.W.Frag) (mg : Str → Option Value) (base : Heap) (C : Ec → Addr) := Callee P w K mg base 4 "foot_high" (spP K C 3 insFoot preFoot (fun i => is (.ok (fz (.int (highBy i.1 i.2.2 i.2.1))))))
theorem ok_foot_high (Bt : Blt mg) (G_foot_rows : C_foot_rows P w K mg base C) (D : Df K mg "foot_high" s_foot_high) : C_foot_high P w K mg base C := by
  refine callee_of D sc_foot_high (fun _ _ _ _ _ _ us hl => match us, hl with | [_, _, _], _ => rfl) (fun f cdv A outer s H E c i hi => ?_)
  obtain ⟨fm, foot, ps⟩ := i
  have hi : preFoot (fm, foot, ps) := hi
  have hfr := filled_row hi.1 hi.2.1 hi.2.2.2
  have heq := foot_high_eq fm ps foot
  show Sxs _ _ _ [some (fz (frD fm)), some (fz (.list (foot.map sayD))), some (fz (.list (ps.map plD))), none, none] _
  refine sxs_set 3 ((Fr.ev (fr_call c G_foot_rows (fm, foot, ps) hi (fun _ h => h) (as_cons (Ev.s (ev_var 0 rfl)) (as_cons (Ev.s (ev_var 1 rfl)) (as_cons (Ev.s (ev_var 2 rfl)) as_nil))))).to (e := .list ((filled fm ps foot).map .str)) rfl) ?_ c.nd
  generalize filled fm ps foot = rows at hfr heq
  refine sxs_forL PyData.str rows (fun _ : Unit => [some (fz (frD fm)), some (fz (.list (foot.map sayD))), some (fz (.list (ps.map plD))), some (fz (.list (rows.map .str))), none]) (fun _ ys => (∀ y ∈ ys, okRow y) ∧ (rows.any fun r => decide (fm.wide < r.length)) = ys.any fun r => decide (fm.wide < r.length)) () c (iv_list (ev_var 3 rfl)) (tg_name 4 c.nd) (Wk.refl _) ⟨hfr.1, rfl⟩ (fun _ y ys hR => ⟨⟨(fun h => nomatch h), rfl⟩, ?_⟩) (fun _ hR => ?_)
  · obtain ⟨hok, hany⟩ := hR
    have hy := (hok y List.mem_cons_self).2
    rw [List.any_cons] at hany
    refine sxs_if (tst_cm (cm_gt (i := (y.length : Int)) (j := (fm.wide : Int)) (ev_lenS Bt (ev_var 4 rfl) (szm (by omega))) (ev_ixT (ev_var 0 rfl) ev_int rfl))) (fun h => ?_) (fun h => ?_)
    · have h : (fm.wide : Int) < y.length := of_decide_eq_true h
      rw [decide_eq_true (by omega), Bool.true_or] at hany
      rw [hany, if_pos rfl] at heq
      refine sxs_ret (ev_ixT (ev_var 0 rfl) ev_int rfl) ?_
      show _ = _
      rw [heq]
    · have h : ¬ (fm.wide : Int) < y.length := of_decide_eq_false h
      rw [decide_eq_false (by omega), Bool.false_or] at hany
      refine sxs_nil ?_
      exact sxs_nil ⟨_, Wk.of (wkl_some rfl (wkl_some rfl (wkl_some rfl (wkl_some rfl (wkl_none wkl_nil))))), (), rfl, fun y' h' => hok y' (List.mem_cons_of_mem _ h'), hany⟩
  · rw [hR.2] at heq
    refine sxs_ret ((ev_min c Bt (ev_len Bt (Bv.bw (Ev.bv (ev_var 3 rfl)))) (ev_ixT (ev_var 0 rfl) ev_int rfl)).to (e := .int ((min rows.length fm.high : Nat) : Int)) (by rw [List.length_map]; congr 1; show min (rows.length : Int) (fm.high : Int) = _; omega)) ?_
    show _ = _
    rw [heq]
    rfl
abbrev C_by_ahead (P : Program) (w : World) (K : PySem.W.Frag) (mg : Str → Option Value) (base : Heap) (C : Ec → Addr) := Callee P w K mg base 3 "by_ahead" (spP K C 4 insBy preBy (fun i => is (.ok (oS (byAhead i.f i.ws i.low i.i i.j)))))
theorem ok_by_ahead (G_later : C_later P w K mg base C) (G_behind : C_behind P w K mg base C) (G_first_from : C_first_from P w K mg base C) (D : Df K mg "by_ahead" s_by_ahead) : C_by_ahead P w K mg base C := by
  refine callee_of D sc_by_ahead (fun _ _ _ _ _ _ us hl => match us, hl with | [_, _, _, _], _ => rfl) (fun f cdv A outer s H E c i hi => ?_)
  obtain ⟨fm, ws, low, i, j⟩ := i
  obtain ⟨hb, hil⟩ := hi
  have hb : okBk fm ws low := hb
  have hil : i < low.length := hil
  have hw := wdAt_get (ws := ws) (k := i) (by have := hb.len; omega)
  have hp := plAt_get hil
  show Sxs _ _ _ [some (fz (bkD (fm, ws))), some (fz (.list (low.map plD))), some (fz (.int i)), some (fz (.int j)), none, none] _
  refine sxs_if (tst_cm (cm_ne (ev_var 3 rfl) (ev_sub (ev_var 2 rfl) ev_int))) (fun h => ?_) (fun h => ?_)
  · have h : ¬ j = (i : Int) - 1 := by simpa using h
    refine sxs_ret ev_non ?_
    show _ = Except.ok (oS (byAhead fm ws low i j))
    rw [byAhead, if_neg h]; rfl
  · have h : j = (i : Int) - 1 := by simpa using h
    refine sxs_nil ?_
    refine sxs_set 4 (ev_ixT (ev_ixL (Bv.bw (Ev.bv (ev_ixT (ev_var 0 rfl) ev_int rfl))) (ev_var 2 rfl) (atI_map wdD hw)) ev_int rfl) ?_ c.nd
    refine sxs_set 5 (ev_ixL (Bv.bw (Ev.bv (ev_var 1 rfl))) (ev_var 2 rfl) (atI_map plD hp)) ?_ c.nd
    refine sxs_ifJ [some (fz (bkD (fm, ws))), some (fz (.list (low.map plD))), some (fz (.int i)), some (fz (.int j)), some (fz (.int (wdAt ws i).lead)), some (fz (plD (if 0 < i then laterP (plAt low i) (behindP fm (plAt low (i - 1)) (wdAt ws i).lead) else plAt low i)))]
      (tst_cm (cm_gt (ev_var 2 rfl) ev_int)) (fun h0 => ?_) (fun h0 => ?_) ?_
    · have h0 : 0 < i := by have := of_decide_eq_true h0; omega
      rw [if_pos h0]
      refine sxs_set 5 (ev_call c G_later (plAt low i, behindP fm (plAt low (i - 1)) (wdAt ws i).lead) trivial (fun _ h => h) (as_cons (Ev.s (ev_var 5 rfl)) (as_cons (Ev.s ((FrT.ev (t_call c G_behind (fm, plAt low (i - 1), (wdAt ws i).lead) trivial (fun _ h => h) (as_cons (Ev.s (ev_ixT (ev_var 0 rfl) ev_int rfl)) (as_cons (Ev.s (ev_ixL (Bv.bw (Ev.bv (ev_var 1 rfl))) ((ev_var 3 rfl).to (e := .int ((i - 1 : Nat) : Int)) (by congr 1; omega)) (atI_map plD (plAt_get (ps := low) (k := i - 1) (by omega))))) (as_cons (Ev.s (ev_var 4 rfl)) as_nil))))).to (plT_er _))) as_nil))) ?_ c.nd
      exact sxs_nil (Wk.refl _)
    · have h0 : ¬ 0 < i := by have := of_decide_eq_false h0; omega
      rw [if_neg h0]
      exact sxs_nil (Wk.refl _)
    refine sxs_retT (t_call c G_first_from (fm, (if 0 < i then laterP (plAt low i) (behindP fm (plAt low (i - 1)) (wdAt ws i).lead) else plAt low i), (wdAt ws i).lead) trivial (fun _ h => h) (as_cons (Ev.s (ev_ixT (ev_var 0 rfl) ev_int rfl)) (as_cons (Ev.s (ev_var 5 rfl)) (as_cons (Ev.s (ev_var 4 rfl)) as_nil)))) ?_
    show _ = Except.ok (oS (byAhead fm ws low i j))
    rw [byAhead, if_pos h]; rfl
theorem by_next_lt {i : Nat} {j : Int} {ws : List Wrd} (h1 : (!decide (j = (i : Int) + 1)) = false) (h2 : decide ((((ws.map wdD).length : Nat) : Int) ≤ j) = false) : i + 1 < ws.length := by
  have h1 : j = (i : Int) + 1 := by simpa using h1
  have h2 := of_decide_eq_false h2
  rw [List.length_map] at h2
  omega
abbrev C_by_next (P : Program) (w : World) (K : PySem.W.Frag) (mg : Str → Option Value) (base : Heap) (C : Ec → Addr) := Callee P w K mg base 1 "by_next" (spP K C 4 insBy preBy (fun i => is (.ok (oS (byNext i.f i.ws i.low i.i i.j)))))
theorem ok_by_next (Bt : Blt mg) (D : Df K mg "by_next" s_by_next) : C_by_next P w K mg base C := by
  refine callee_of D sc_by_next (fun _ _ _ _ _ _ us hl => match us, hl with | [_, _, _, _], _ => rfl) (fun f cdv A outer s H E c i hi => ?_)
  obtain ⟨fm, ws, low, i, j⟩ := i
  obtain ⟨hb, hil⟩ := hi
  have hb : okBk fm ws low := hb
  have hil : i < low.length := hil
  have hlen := hb.len
  show Sxs _ _ _ [some (fz (bkD (fm, ws))), some (fz (.list (low.map plD))), some (fz (.int i)), some (fz (.int j))] _
  refine sxs_if (t := !decide (j = i + 1 ∧ i + 1 < low.length ∧ (wdAt ws (i + 1)).kept = true)) ((Tws.tst (tw_or (tst_cm (cm_ne (ev_var 3 rfl) (ev_add (ev_var 2 rfl) ev_int))) fun h1 => (tw_or (tst_cm (cm_ge (ev_var 3 rfl) (ev_len Bt (Bv.bw (Ev.bv (ev_ixT (ev_var 0 rfl) ev_int rfl)))))) fun h2 => (tw_or1 (tst_not (tst_val (ev_ixT (ev_ixL (Bv.bw (Ev.bv (ev_ixT (ev_var 0 rfl) ev_int rfl))) ((ev_var 3 rfl).to (e := .int ((i + 1 : Nat) : Int)) (by rw [show j = (i : Int) + 1 by simpa using h1]; rfl)) (atI_map wdD (wdAt_get (ws := ws) (k := i + 1) (by_next_lt h1 h2)))) ev_int rfl))))))).to ?_) (fun h => ?_) (fun h => ?_)
  · rw [List.length_map]
    by_cases a : j = (i : Int) + 1
    · by_cases b : i + 1 < low.length
      · rw [decide_eq_true a, decide_eq_false (by omega : ¬ ((ws.length : Nat) : Int) ≤ j)]
        cases e : (wdAt ws (i + 1)).kept <;> simp [a, b]
      · rw [decide_eq_true a, decide_eq_true (by omega : ((ws.length : Nat) : Int) ≤ j), decide_eq_false (fun z => b z.2.1)]; rfl
    · simp [a]
  · have h := nd_t h
    refine sxs_ret ev_non ?_
    show _ = Except.ok (oS (byNext fm ws low i j))
    rw [byNext, if_neg h]; rfl
  · have h := nd_f h
    refine sxs_nil ?_
    refine sxs_retT (FrT.to (t_tup (ta_cons (Ev.t (ev_ixT (ev_ixL (Bv.bw (Ev.bv (ev_var 1 rfl))) ((ev_var 3 rfl).to (e := .int ((i + 1 : Nat) : Int)) (by rw [h.1]; rfl)) (atI_map plD (plAt_get h.2.1))) ev_int rfl)) (ta_cons (Ev.t ev_int) ta_nil))) (u := plT ((plAt low (i + 1)).1, 0)) rfl) ?_
    show _ = Except.ok (oS (byNext fm ws low i j))
    rw [byNext, if_pos h]; rfl
end
end Tl

/-! Reasons: walked, and what is reached. -/
namespace Tl
open PySem PySem.Spec PyProof.Rows L2 PV
section
variable {P : Program} {w : World} {K : PySem.W.Frag} {mg : Str → Option Value} {base : Heap} {C : Ec → Addr}
abbrev C_by_itself (P : Program) (w : World) (K : PySem.W.Frag) (mg : Str → Option Value) (base : Heap) (C : Ec → Addr) := Callee P w K mg base 5 "by_itself" (spP K C 4 insBy preBy (fun i => is (.ok (oS (byItself i.f i.ws i.low i.i i.j)))))
theorem ok_by_itself (G_wide_of : C_wide_of P w K mg base C) (G_foot_high : C_foot_high P w K mg base C) (D : Df K mg "by_itself" s_by_itself) : C_by_itself P w K mg base C := by
  refine callee_of D sc_by_itself (fun _ _ _ _ _ _ us hl => match us, hl with | [_, _, _, _], _ => rfl) (fun f cdv A outer s H E c i hi => ?_)
  obtain ⟨fm, ws, low, i, j⟩ := i
  obtain ⟨hb, hil⟩ := hi
  have hb : okBk fm ws low := hb
  have hil : i < low.length := hil
  have hw := wdAt_get (ws := ws) (k := i) (by have := hb.len; omega)
  have hwd := hb.wrd _ (List.mem_of_getElem? hw)
  show Sxs _ _ _ [some (fz (bkD (fm, ws))), some (fz (.list (low.map plD))), some (fz (.int i)), some (fz (.int j)), none, none] _
  refine sxs_if (tst_cm (cm_ne (ev_var 3 rfl) (ev_var 2 rfl))) (fun h => ?_) (fun h => ?_)
  · have h : ¬ j = (i : Int) := by simpa using h
    refine sxs_ret ev_non ?_
    show _ = Except.ok (oS (byItself fm ws low i j))
    rw [byItself, if_neg (fun z => h z.1)]; rfl
  · have h : j = (i : Int) := by simpa using h
    refine sxs_nil ?_
    refine sxs_set 4 (ev_ixT (ev_var 0 rfl) ev_int rfl) ?_ c.nd
    refine sxs_set 5 (ev_ixL (Bv.bw (Ev.bv (ev_ixT (ev_var 0 rfl) ev_int rfl))) (ev_var 2 rfl) (atI_map wdD hw)) ?_ c.nd
    refine sxs_if (t := !decide (fm.wide < ownW fm low ws i ∨ fm.high ≤ ftW fm low ws i)) (tst_and2 (tst_cm (cm_le (i := ((ownW fm low ws i : Nat) : Int)) (j := (fm.wide : Int)) (ev_call c G_wide_of (fm, (wdAt ws i).own, low) ⟨hb.frm, hb.pls, hwd.own⟩ (fun _ h => h) (as_cons (Ev.s (ev_var 4 rfl)) (as_cons (Ev.s (ev_ixT (ev_var 5 rfl) ev_int rfl)) (as_cons (Ev.s (ev_var 1 rfl)) as_nil)))) (ev_ixT (ev_var 4 rfl) ev_int rfl))) (fun _ => tst_cm (cm_lt (i := ((ftW fm low ws i : Nat) : Int)) (j := (fm.high : Int)) (ev_call c G_foot_high (fm, (wdAt ws i).foot, low) ⟨hb.frm, hb.pls, hwd.foot.1, hwd.foot.2⟩ (fun _ h => h) (as_cons (Ev.s (ev_var 4 rfl)) (as_cons (Ev.s (ev_ixT (ev_var 5 rfl) ev_int rfl)) (as_cons (Ev.s (ev_var 1 rfl)) as_nil)))) (ev_ixT (ev_var 4 rfl) ev_int rfl))) (by
        rw [← Bool.decide_and, ← decide_not, decide_eq_decide]; omega)) (fun h2 => ?_) (fun h2 => ?_)
    · have h2 : ¬ (fm.wide < ownW fm low ws i ∨ fm.high ≤ ftW fm low ws i) := nd_t h2
      refine sxs_ret ev_non ?_
      show _ = Except.ok (oS (byItself fm ws low i j))
      rw [byItself, if_neg (fun z => h2 z.2)]; rfl
    · have h2 : fm.wide < ownW fm low ws i ∨ fm.high ≤ ftW fm low ws i := nd_f h2
      refine sxs_nil ?_
      refine sxs_retT (FrT.to (t_tup (ta_cons (Ev.t (ev_ixT (ev_var 4 rfl) ev_int rfl)) (ta_cons (Ev.t ev_int) ta_nil))) (u := plT (fm.most, 0)) rfl) ?_
      show _ = Except.ok (oS (byItself fm ws low i j))
      rw [byItself, if_pos ⟨h, h2⟩]; rfl
theorem sub_cut {ws : List Wrd} {j i : Nat} (hi : i < ws.length) (hj : j ≤ i) : cutD (ws.map wdD) (some (j : Int)) (some ((i + 1 : Nat) : Int)) = (((List.range (i - j + 1)).map fun k => wdAt ws (j + k)).map wdD) := by
  rw [cut_map, HT.sIx_nat, HT.sIx_nat, Nat.min_eq_left (by omega), Nat.min_eq_left (by omega)]
  congr 1
  apply List.ext_getElem?
  intro k
  by_cases hk : k < i - j + 1
  · rw [List.getElem?_take_of_lt (by omega), List.getElem?_drop, List.getElem?_map, List.getElem?_range hk, wdAt_get (by omega)]
    rfl
  · rw [List.getElem?_eq_none (by simp; omega), List.getElem?_eq_none (by simp; omega)]
theorem sumR_left (g : Nat → Nat) (j : Nat) : ∀ n, sumR g j n + g (j + n) = sumR g j (n + 1) := fun n => rfl
abbrev C_by_width (P : Program) (w : World) (K : PySem.W.Frag) (mg : Str → Option Value) (base : Heap) (C : Ec → Addr) := Callee P w K mg base 4 "by_width" (spP K C 4 insBy preBy (fun i => is (.ok (oS (byWidth i.f i.ws i.low i.i i.j)))))
theorem ok_by_width (G_wide_of : C_wide_of P w K mg base C) (G_behind : C_behind P w K mg base C) (D : Df K mg "by_width" s_by_width) : C_by_width P w K mg base C := by
  refine callee_of D sc_by_width (fun _ _ _ _ _ _ us hl => match us, hl with | [_, _, _, _], _ => rfl) (fun f cdv A outer s H E c i hi => ?_)
  obtain ⟨fm, ws, low, i, j⟩ := i
  obtain ⟨hb, hil⟩ := hi
  have hb : okBk fm ws low := hb
  have hil : i < low.length := hil
  have hlen := hb.len
  show Sxs _ _ _ [some (fz (bkD (fm, ws))), some (fz (.list (low.map plD))), some (fz (.int i)), some (fz (.int j)), none, none, none] _
  refine sxs_if (t := decide (j < 0 ∨ (i : Int) ≤ j)) (tst_or2 (tst_cm (cm_lt (ev_var 3 rfl) ev_int)) (fun _ => tst_cm (cm_ge (ev_var 3 rfl) (ev_var 2 rfl))) (by rw [Bool.decide_or])) (fun h => ?_) (fun h => ?_)
  · have h := of_decide_eq_true h
    refine sxs_ret ev_non ?_
    show _ = Except.ok (oS (byWidth fm ws low i j))
    rw [byWidth, if_pos h]; rfl
  · have h := of_decide_eq_false h
    obtain ⟨n, rfl⟩ : ∃ n : Nat, j = n := ⟨j.toNat, by omega⟩
    have hn : n < i := by omega
    refine sxs_nil ?_
    refine sxs_set 4 (ev_ixT (ev_var 0 rfl) ev_int rfl) ?_ c.nd
    refine sxs_set 5 ((ev_sub (ev_var 2 rfl) (ev_var 3 rfl)).to (e := .int ((i - n + sumR (ownW fm low ws) n 0 : Nat) : Int)) (by unfold sumR; congr 1; omega)) ?_ c.nd
    refine sxs_for c (fun k ρ => ρ = [some (fz (bkD (fm, ws))), some (fz (.list (low.map plD))), some (fz (.int i)), some (fz (.int n)), some (fz (frD fm)), some (fz (.int ((i - n + sumR (ownW fm low ws) n k : Nat) : Int))), none])
      (iv_list (Fr.ev (Fr.to (fr_slice (Bv.bw (Ev.bv (ev_ixT (ev_var 0 rfl) ev_int rfl))) (evo (ev_var 3 rfl)) (evo ((ev_add (ev_var 2 rfl) ev_int).to (e := .int ((i + 1 : Nat) : Int)) rfl))) (sub_cut (ws := ws) (by omega) (by omega : n ≤ i))))) (tg_name 6 c.nd) rfl (fun k d ρ hd hP => ⟨⟨(fun h => nomatch h), rfl⟩, ?_⟩) (fun ρ hP => ?_)
    · subst hP
      rw [List.getElem?_map] at hd
      obtain ⟨x, hx, rfl⟩ := Option.map_eq_some_iff.mp hd
      have hk : k < i - n + 1 := by have := (List.getElem?_eq_some_iff.mp hx).1; simpa using this
      rw [List.getElem?_map, List.getElem?_range hk] at hx
      obtain rfl := (Option.some.inj hx).symm
      have hwd := hb.wrd _ (List.mem_of_getElem? (wdAt_get (ws := ws) (k := n + k) (by omega)))
      show Sxs _ _ _ [some (fz (bkD (fm, ws))), some (fz (.list (low.map plD))), some (fz (.int i)), some (fz (.int n)), some (fz (frD fm)), some (fz (.int ((i - n + sumR (ownW fm low ws) n k : Nat) : Int))), some (fz (wdD (wdAt ws (n + k))))] _
      refine sxs_augAdd 5 rfl (ev_call c G_wide_of (fm, (wdAt ws (n + k)).own, low) ⟨hb.frm, hb.pls, hwd.own⟩ (fun _ h => h) (as_cons (Ev.s (ev_var 4 rfl)) (as_cons (Ev.s (ev_ixT (ev_var 6 rfl) ev_int rfl)) (as_cons (Ev.s (ev_var 1 rfl)) as_nil)))) ?_ c.nd
      refine sxs_nil ⟨_, Wk.of ?_, rfl⟩
      have e : (((i - n + sumR (ownW fm low ws) n k : Nat) : Int) + ((said fm low (wdAt ws (n + k)).own).length : Nat)) = ((i - n + sumR (ownW fm low ws) n (k + 1) : Nat) : Int) := by
        rw [← sumR_left]
        show _ = ((i - n + (sumR (ownW fm low ws) n k + (said fm low (wdAt ws (n + k)).own).length) : Nat) : Int)
        omega
      rw [← e]
      exact wkl_some rfl (wkl_some rfl (wkl_some rfl (wkl_some rfl (wkl_some rfl (wkl_some rfl (wkl_none wkl_nil))))))
    · subst hP
      have e : (((List.range (i - n + 1)).map fun k => wdAt ws (n + k)).map wdD).length = i - n + 1 := by simp
      rw [e]
      refine sxs_if (tst_cm (cm_le (j := (fm.wide : Int)) (ev_var 5 rfl) (ev_ixT (ev_var 4 rfl) ev_int rfl))) (fun h2 => ?_) (fun h2 => ?_)
      · have h2 := of_decide_eq_true h2
        refine sxs_ret ev_non ?_
        show _ = Except.ok (oS (byWidth fm ws low i n))
        rw [byWidth, if_neg h, Int.toNat_natCast, if_neg (by omega)]; rfl
      · have h2 := of_decide_eq_false h2
        refine sxs_nil ?_
        refine sxs_retT (t_call c G_behind (fm, plAt low n, 1) trivial (fun _ h => h) (as_cons (Ev.s (ev_var 4 rfl)) (as_cons (Ev.s (ev_ixL (Bv.bw (Ev.bv (ev_var 1 rfl))) (ev_var 3 rfl) (atI_map plD (plAt_get (ps := low) (k := n) (by omega))))) (as_cons (Ev.s ev_int) as_nil)))) ?_
        show _ = Except.ok (oS (byWidth fm ws low i n))
        rw [byWidth, if_neg h, Int.toNat_natCast, if_pos (by omega)]; rfl
abbrev C_by_height (P : Program) (w : World) (K : PySem.W.Frag) (mg : Str → Option Value) (base : Heap) (C : Ec → Addr) := Callee P w K mg base 5 "by_height" (spP K C 4 insBy preBy (fun i => is (.ok (oS (byHeight i.f i.ws i.low i.i i.j)))))
theorem ok_by_height (G_foot_high : C_foot_high P w K mg base C) (D : Df K mg "by_height" s_by_height) : C_by_height P w K mg base C := by
  refine callee_of D sc_by_height (fun _ _ _ _ _ _ us hl => match us, hl with | [_, _, _, _], _ => rfl) (fun f cdv A outer s H E c i hi => ?_)
  obtain ⟨fm, ws, low, i, j⟩ := i
  obtain ⟨hb, hil⟩ := hi
  have hb : okBk fm ws low := hb
  have hil : i < low.length := hil
  have hlen := hb.len
  have hpi := plAt_get hil
  show Sxs _ _ _ [some (fz (bkD (fm, ws))), some (fz (.list (low.map plD))), some (fz (.int i)), some (fz (.int j)), none, none, none] _
  by_cases hj : j < 0 ∨ (i : Int) < j
  · refine sxs_if (t := true) ((Tws.tst (tw_or (tst_cm (cm_lt (ev_var 3 rfl) ev_int)) fun h1 => (tw_or (q := true) ((tst_cm (cm_gt (ev_var 3 rfl) (ev_var 2 rfl))).to (q := true) (by have := of_decide_eq_false h1; rw [decide_eq_true (by omega)])) fun h2 => nomatch h2))).to (by rw [Bool.true_or, Bool.or_true])) (fun h => ?_) (fun h => nomatch h)
    refine sxs_ret ev_non ?_
    show _ = Except.ok (oS (byHeight fm ws low i j))
    rw [byHeight, if_pos (by omega)]; rfl
  · obtain ⟨n, rfl⟩ : ∃ n : Nat, j = n := ⟨j.toNat, by omega⟩
    have hn : n ≤ i := by omega
    have hpn := plAt_get (ps := low) (k := n) (by omega)
    refine sxs_if (t := decide ((plAt low n).1 < (plAt low i).1)) ((Tws.tst (tw_or ((tst_cm (cm_lt (ev_var 3 rfl) ev_int)).to (q := false) (by rw [decide_eq_false (by omega)])) fun h1 => (tw_or ((tst_cm (cm_gt (ev_var 3 rfl) (ev_var 2 rfl))).to (q := false) (by rw [decide_eq_false (by omega)])) fun h2 => (tw_or1 (tst_cm (cm_lt (i := ((plAt low n).1 : Int)) (j := ((plAt low i).1 : Int)) (ev_ixT (ev_ixL (Bv.bw (Ev.bv (ev_var 1 rfl))) (ev_var 3 rfl) (atI_map plD hpn)) ev_int rfl) (ev_ixT (ev_ixL (Bv.bw (Ev.bv (ev_var 1 rfl))) (ev_var 2 rfl) (atI_map plD hpi)) ev_int rfl))))))).to (by rw [Bool.false_or, Bool.false_or, decide_eq_decide]; omega)) (fun h => ?_) (fun h => ?_)
    · have h := of_decide_eq_true h
      refine sxs_ret ev_non ?_
      show _ = Except.ok (oS (byHeight fm ws low i n))
      rw [byHeight, if_pos (.inr (.inr (by rw [Int.toNat_natCast]; exact h)))]; rfl
    · have h := of_decide_eq_false h
      refine sxs_nil ?_
      refine sxs_set 4 (ev_ixT (ev_var 0 rfl) ev_int rfl) ?_ c.nd
      refine sxs_set 5 ((ev_add (ev_ixT (ev_ixL (Bv.bw (Ev.bv (ev_var 1 rfl))) (ev_var 2 rfl) (atI_map plD hpi)) ev_int rfl) ev_int).to (e := .int (((plAt low i).2 + 1 + sumR (ftW fm low ws) n 0 : Nat) : Int)) rfl) ?_ c.nd
      refine sxs_for c (fun k ρ => ρ = [some (fz (bkD (fm, ws))), some (fz (.list (low.map plD))), some (fz (.int i)), some (fz (.int n)), some (fz (frD fm)), some (fz (.int (((plAt low i).2 + 1 + sumR (ftW fm low ws) n k : Nat) : Int))), none])
        (iv_list (Fr.ev (Fr.to (fr_slice (Bv.bw (Ev.bv (ev_ixT (ev_var 0 rfl) ev_int rfl))) (evo (ev_var 3 rfl)) (evo ((ev_add (ev_var 2 rfl) ev_int).to (e := .int ((i + 1 : Nat) : Int)) rfl))) (sub_cut (ws := ws) (by omega) hn)))) (tg_name 6 c.nd) rfl (fun k d ρ hd hP => ⟨⟨(fun h => nomatch h), rfl⟩, ?_⟩) (fun ρ hP => ?_)
      · subst hP
        rw [List.getElem?_map] at hd
        obtain ⟨x, hx, rfl⟩ := Option.map_eq_some_iff.mp hd
        have hk : k < i - n + 1 := by have := (List.getElem?_eq_some_iff.mp hx).1; simpa using this
        rw [List.getElem?_map, List.getElem?_range hk] at hx
        obtain rfl := (Option.some.inj hx).symm
        have hwd := hb.wrd _ (List.mem_of_getElem? (wdAt_get (ws := ws) (k := n + k) (by omega)))
        show Sxs _ _ _ [some (fz (bkD (fm, ws))), some (fz (.list (low.map plD))), some (fz (.int i)), some (fz (.int n)), some (fz (frD fm)), some (fz (.int (((plAt low i).2 + 1 + sumR (ftW fm low ws) n k : Nat) : Int))), some (fz (wdD (wdAt ws (n + k))))] _
        refine sxs_augAdd 5 rfl (ev_call c G_foot_high (fm, (wdAt ws (n + k)).foot, low) ⟨hb.frm, hb.pls, hwd.foot.1, hwd.foot.2⟩ (fun _ h => h) (as_cons (Ev.s (ev_var 4 rfl)) (as_cons (Ev.s (ev_ixT (ev_var 6 rfl) ev_int rfl)) (as_cons (Ev.s (ev_var 1 rfl)) as_nil)))) ?_ c.nd
        refine sxs_nil ⟨_, Wk.of ?_, rfl⟩
        have e : ((((plAt low i).2 + 1 + sumR (ftW fm low ws) n k : Nat) : Int) + ((highBy fm low (wdAt ws (n + k)).foot : Nat) : Int)) = (((plAt low i).2 + 1 + sumR (ftW fm low ws) n (k + 1) : Nat) : Int) := by
          rw [← sumR_left]
          show _ = (((plAt low i).2 + 1 + (sumR (ftW fm low ws) n k + highBy fm low (wdAt ws (n + k)).foot) : Nat) : Int)
          omega
        rw [← e]
        exact wkl_some rfl (wkl_some rfl (wkl_some rfl (wkl_some rfl (wkl_some rfl (wkl_some rfl (wkl_none wkl_nil))))))
      · subst hP
        have e : (((List.range (i - n + 1)).map fun k => wdAt ws (n + k)).map wdD).length = i - n + 1 := by simp
        rw [e]
        have h0 : ¬ ((n : Int) < 0 ∨ (i : Int) < n ∨ (plAt low (n : Int).toNat).1 < (plAt low i).1) := by rw [Int.toNat_natCast]; omega
        refine sxs_if (tst_cm (cm_le (j := (fm.high : Int)) (ev_var 5 rfl) (ev_ixT (ev_var 4 rfl) ev_int rfl))) (fun h2 => ?_) (fun h2 => ?_)
        · have h2 := of_decide_eq_true h2
          refine sxs_ret ev_non ?_
          show _ = Except.ok (oS (byHeight fm ws low i n))
          rw [byHeight, if_neg h0, Int.toNat_natCast, if_neg (by omega)]; rfl
        · have h2 := of_decide_eq_false h2
          refine sxs_nil ?_
          refine sxs_retT (FrT.to (t_tup (ta_cons (Ev.t (ev_add (ev_ixT (ev_ixL (Bv.bw (Ev.bv (ev_var 1 rfl))) (ev_var 2 rfl) (atI_map plD hpi)) ev_int rfl) ev_int)) (ta_cons (Ev.t ev_int) ta_nil))) (u := plT ((plAt low i).1 + 1, 0)) rfl) ?_
          show _ = Except.ok (oS (byHeight fm ws low i n))
          rw [byHeight, if_neg h0, Int.toNat_natCast, if_pos (by omega)]; rfl
end
end Tl

/-! The pure-value layer: what a slot holds, of a call with things that names own. -/
namespace PV
open PySem PySem.Spec PyProof.Rows L2
section
variable {X : Cx} {W : Wc} {ρ ρ' : Env} {e a b : Expr} {pos : Pos} {C : Ec → Addr} {k : Nat} {rest : List Stmt} {Φ : Out → Prop}
def Slot.free (S : Slot) : Prop := ∀ (K : PySem.W.Frag) (F F' : Hp) (v : V) (m : Mini), S.R K F v m → S.R K F' v m
theorem free_fz {d : PyData} (h : scalar d = true) : (fz d).free := fun K F F' v m ⟨h1, h2⟩ => ⟨h1, dq_scalar h2 h⟩
theorem free_tr {t : T} (h : t.sc = true) : (tr t).free := fun K F F' v m hv => OT.sc t v m h hv
theorem s_borrow {S : Slot} (f : FrzL ρ ρ') (h : FrS X W ρ' e S) (hS : S.free) : FrS X W ρ e S := fun pins s σ F H M Q I ok q => h pins s σ H H _ Q I (ok.frz f) fun v F' H' m x hv hm =>
  q v F H' m (Ext.under ok.sub x) (hS _ _ _ _ _ hv) fun a o hmem => by
    obtain ⟨h1, h2, h3⟩ := hm a o hmem
    refine ⟨h1, ?_, h3⟩
    exact ok.sub.free h3
end
end PV

/-! What is reached; a raise. -/
namespace Tl
open PySem PySem.Spec PyProof.Rows L2 PV
inductive Kd where
  | behind | wide | high | kept | never
def kdS : Kd → Str
  | .behind => "behind"
  | .wide => "wide"
  | .high => "high"
  | .kept => "kept"
  | .never => "never"
def byK (k : Kd) (f : Frm) (ws : List Wrd) (low : List Plc) (i : Nat) (j : Int) : Option Plc := match k with
  | .behind => byAhead f ws low i j
  | .wide => byWidth f ws low i j
  | .high => byHeight f ws low i j
  | .kept => byNext f ws low i j
  | .never => byItself f ws low i j
def reachP (k : Kd) (f : Frm) (ws : List Wrd) (low : List Plc) (i : Nat) (j : Int) : Option Plc := match byK k f ws low i j with
  | none => none
  | some p => if ltP (plAt low i) p then some p else none
theorem reach_some {k : Kd} {f : Frm} {ws : List Wrd} {low : List Plc} {i : Nat} {j : Int} {p : Plc} (h : reachP k f ws low i j = some p) : Reason f ws low i p ∧ ltP (plAt low i) p ∧ byK k f ws low i j = some p := by
  unfold reachP at h
  cases e : byK k f ws low i j with
  | none => rw [e] at h; cases h
  | some q =>
    rw [e] at h
    dsimp only at h
    split at h
    · rename_i hlt
      obtain rfl := Option.some.inj h
      refine ⟨?_, hlt, rfl⟩
      cases k with
      | behind =>
        have e : byAhead f ws low i j = some q := e
        unfold byAhead at e
        split at e
        · obtain rfl := Option.some.inj e; exact .behind
        · cases e
      | wide =>
        have e : byWidth f ws low i j = some q := e
        unfold byWidth at e
        split at e
        · cases e
        · rename_i h1
          split at e
          · rename_i h2
            obtain rfl := Option.some.inj e
            exact .wide (by omega) h2
          · cases e
      | high =>
        have e : byHeight f ws low i j = some q := e
        unfold byHeight at e
        split at e
        · cases e
        · rename_i h1
          split at e
          · rename_i h2
            obtain rfl := Option.some.inj e
            exact .high (j := j.toNat) (by omega) (by omega) h2
          · cases e
      | kept =>
        have e : byNext f ws low i j = some q := e
        unfold byNext at e
        split at e
        · rename_i h1
          obtain rfl := Option.some.inj e
          exact .kept h1.2.1 h1.2.2
        · cases e
      | never =>
        have e : byItself f ws low i j = some q := e
        unfold byItself at e
        split at e
        · rename_i h1
          obtain rfl := Option.some.inj e
          exact .never h1.2
        · cases e
    · cases h
theorem reach_none {k : Kd} {f : Frm} {ws : List Wrd} {low : List Plc} {i : Nat} {j : Int} {p : Plc} (h : reachP k f ws low i j = none) (hp : byK k f ws low i j = some p) : leP p (plAt low i) := by
  unfold reachP at h
  rw [hp] at h
  dsimp only at h
  split at h
  · cases h
  · rename_i hlt; exact not_lt_le.mp hlt
theorem oS_free (o : Option Plc) : (oS o).free := by
  cases o with
  | none => exact free_fz rfl
  | some p => exact free_tr (sc_tup (scs_cons (sc_fz) (scs_cons (sc_fz) scs_nil)))
section
variable {P : Program} {w : World} {K : PySem.W.Frag} {mg : Str → Option Value} {base : Heap} {C : Ec → Addr}
abbrev C_reach (P : Program) (w : World) (K : PySem.W.Frag) (mg : Str → Option Value) (base : Heap) (C : Ec → Addr) := Callee P w K mg base 6 "reach" (spP K C 5 (fun i : Kd × InBy => [fz (bkD (i.2.f, i.2.ws)), fz (.list (i.2.low.map plD)), fz (.str (kdS i.1)), fz (.int i.2.i), fz (.int i.2.j)]) (fun i => preBy i.2) (fun i => is (.ok (oS (reachP i.1 i.2.f i.2.ws i.2.low i.2.i i.2.j)))))
theorem ok_reach (G_later : C_later P w K mg base C) (G_by_ahead : C_by_ahead P w K mg base C) (G_by_width : C_by_width P w K mg base C) (G_by_height : C_by_height P w K mg base C) (G_by_next : C_by_next P w K mg base C) (G_by_itself : C_by_itself P w K mg base C) (D : Df K mg "reach" s_reach) : C_reach P w K mg base C := by
  refine callee_of D sc_reach (fun _ _ _ _ _ _ us hl => match us, hl with | [_, _, _, _, _], _ => rfl) (fun f cdv A outer s H E c i hi => ?_)
  obtain ⟨kd, fm, ws, low, i, j⟩ := i
  have hi : preBy ⟨fm, ws, low, i, j⟩ := hi
  have hil : i < low.length := hi.2
  have hpi := plAt_get hil
  show Sxs _ _ _ [some (fz (bkD (fm, ws))), some (fz (.list (low.map plD))), some (fz (.str (kdS kd))), some (fz (.int i)), some (fz (.int j)), none] _
  refine sxs_set 5 ev_non ?_ c.nd
  refine sxs_mono (Φ := fun o => bodyS (is (.ok (oS (reachP kd fm ws low i j)))) o) ?_ (fun _ h => h)
  have tail : ∀ o : Option Plc, byK kd fm ws low i j = o → Sxs (cxD P w K mg base ["book", "low", "kind", "i", "j", "spot"] "reach" s_reach f cdv A outer s H E) (fun c σ H => E (.ref (C c)) none H) (match defBody s_reach with | [_, _, a, b] => [a, b] | _ => []) [some (fz (bkD (fm, ws))), some (fz (.list (low.map plD))), some (fz (.str (kdS kd))), some (fz (.int i)), some (fz (.int j)), some (oS o)] (bodyS (is (.ok (oS (reachP kd fm ws low i j))))) := by
    intro o ho
    cases o with
    | none =>
      refine sxs_if (t := true) (tst_or2 (p := true) (q := true) (Tst.to (tst_cm (cm_isN (ev_var 5 rfl))) rfl) (fun h => nomatch h) rfl) (fun h => ?_) (fun h => nomatch h)
      refine sxs_ret ev_non ?_
      show _ = Except.ok (oS (reachP kd fm ws low i j))
      unfold reachP
      rw [ho]; rfl
    | some p =>
      have fz1 : FrzL [some (fz (bkD (fm, ws))), some (fz (.list (low.map plD))), some (fz (.str (kdS kd))), some (fz (.int i)), some (fz (.int j)), some (tr (plT p))] [some (fz (bkD (fm, ws))), some (fz (.list (low.map plD))), some (fz (.str (kdS kd))), some (fz (.int i)), some (fz (.int j)), some (fz (plD p))] :=
        .keep brw_fz (.keep brw_fz (.keep brw_fz (.keep brw_fz (.keep brw_fz (.keep (brw_trD (plT_er p)) .nil)))))
      refine sxs_if (t := !decide (ltP (plAt low i) p)) (tst_borrow fz1 (tst_or2 (p := false) (Tst.to (tst_cm (cm_isN (ev_var 5 rfl))) rfl) (fun _ => tst_cm (cm_eqD c (Ev.rv (ev_call c G_later (p, plAt low i) trivial (fun _ h => h) (as_cons (Ev.s (ev_var 5 rfl)) (as_cons (Ev.s (ev_ixL (Bv.bw (Ev.bv (ev_var 1 rfl))) (ev_var 3 rfl) (atI_map plD hpi))) as_nil)))) (Ev.rv (ev_ixL (Bv.bw (Ev.bv (ev_var 1 rfl))) (ev_var 3 rfl) (atI_map plD hpi))) (cl_shaped (pl_cl _)) (cl_shaped (pl_cl _)))) (by
          rw [Bool.false_or, pl_ne, ← decide_not, decide_eq_decide]
          show ¬ ltP (plAt low i) p ↔ laterP p (plAt low i) = plAt low i
          unfold laterP
          constructor
          · intro h
            split
            · rfl
            · rename_i h2; exact leP_anti (not_lt_le.mp h) (not_lt_le.mp h2)
          · intro h h3
            split at h
            · rename_i h2; unfold ltP at *; omega
            · rw [h] at h3; unfold ltP at h3; omega))) (fun h => ?_) (fun h => ?_)
      · have h := nd_t h
        refine sxs_ret ev_non ?_
        show _ = Except.ok (oS (reachP kd fm ws low i j))
        unfold reachP
        rw [ho]
        dsimp only
        rw [if_neg h]; rfl
      · have h := nd_f h
        refine sxs_nil ?_
        refine sxs_retO 5 rfl ?_
        show _ = Except.ok (oS (reachP kd fm ws low i j))
        unfold reachP
        rw [ho]
        dsimp only
        rw [if_pos h]
  have hn : ∀ a b : Str, a ≠ b → decide (a = b) = false := fun a b h => decide_eq_false h
  cases kd with
  | behind =>
    refine sxs_if (tst_cm (cm_eqS (ev_var 2 rfl) ev_str)) (fun h => ?_) (fun h => absurd h (by decide +kernel))
    refine sxs_setS 5 (s_call c G_by_ahead ⟨fm, ws, low, i, j⟩ hi (fun _ h => h) (as_cons (Ev.s (ev_var 0 rfl)) (as_cons (Ev.s (ev_var 1 rfl)) (as_cons (Ev.s (ev_var 3 rfl)) (as_cons (Ev.s (ev_var 4 rfl)) as_nil))))) ?_ c.nd
    refine sxs_nil ?_
    exact tail _ rfl
  | wide =>
    refine sxs_if (tst_cm (cm_eqS (ev_var 2 rfl) ev_str)) (fun h => absurd h (by decide +kernel)) (fun h => ?_)
    refine sxs_if (tst_cm (cm_eqS (ev_var 2 rfl) ev_str)) (fun h => ?_) (fun h => absurd h (by decide +kernel))
    refine sxs_setS 5 (s_call c G_by_width ⟨fm, ws, low, i, j⟩ hi (fun _ h => h) (as_cons (Ev.s (ev_var 0 rfl)) (as_cons (Ev.s (ev_var 1 rfl)) (as_cons (Ev.s (ev_var 3 rfl)) (as_cons (Ev.s (ev_var 4 rfl)) as_nil))))) ?_ c.nd
    refine sxs_nil ?_
    refine sxs_nil ?_
    exact tail _ rfl
  | high =>
    refine sxs_if (tst_cm (cm_eqS (ev_var 2 rfl) ev_str)) (fun h => absurd h (by decide +kernel)) (fun h => ?_)
    refine sxs_if (tst_cm (cm_eqS (ev_var 2 rfl) ev_str)) (fun h => absurd h (by decide +kernel)) (fun h => ?_)
    refine sxs_if (tst_cm (cm_eqS (ev_var 2 rfl) ev_str)) (fun h => ?_) (fun h => absurd h (by decide +kernel))
    refine sxs_setS 5 (s_call c G_by_height ⟨fm, ws, low, i, j⟩ hi (fun _ h => h) (as_cons (Ev.s (ev_var 0 rfl)) (as_cons (Ev.s (ev_var 1 rfl)) (as_cons (Ev.s (ev_var 3 rfl)) (as_cons (Ev.s (ev_var 4 rfl)) as_nil))))) ?_ c.nd
    refine sxs_nil ?_
    refine sxs_nil ?_
    refine sxs_nil ?_
    exact tail _ rfl
  | kept =>
    refine sxs_if (tst_cm (cm_eqS (ev_var 2 rfl) ev_str)) (fun h => absurd h (by decide +kernel)) (fun h => ?_)
    refine sxs_if (tst_cm (cm_eqS (ev_var 2 rfl) ev_str)) (fun h => absurd h (by decide +kernel)) (fun h => ?_)
    refine sxs_if (tst_cm (cm_eqS (ev_var 2 rfl) ev_str)) (fun h => absurd h (by decide +kernel)) (fun h => ?_)
    refine sxs_if (tst_cm (cm_eqS (ev_var 2 rfl) ev_str)) (fun h => ?_) (fun h => absurd h (by decide +kernel))
    refine sxs_setS 5 (s_call c G_by_next ⟨fm, ws, low, i, j⟩ hi (fun _ h => h) (as_cons (Ev.s (ev_var 0 rfl)) (as_cons (Ev.s (ev_var 1 rfl)) (as_cons (Ev.s (ev_var 3 rfl)) (as_cons (Ev.s (ev_var 4 rfl)) as_nil))))) ?_ c.nd
    refine sxs_nil ?_
    refine sxs_nil ?_
    refine sxs_nil ?_
    refine sxs_nil ?_
    exact tail _ rfl
  | never =>
    refine sxs_if (tst_cm (cm_eqS (ev_var 2 rfl) ev_str)) (fun h => absurd h (by decide +kernel)) (fun h => ?_)
    refine sxs_if (tst_cm (cm_eqS (ev_var 2 rfl) ev_str)) (fun h => absurd h (by decide +kernel)) (fun h => ?_)
    refine sxs_if (tst_cm (cm_eqS (ev_var 2 rfl) ev_str)) (fun h => absurd h (by decide +kernel)) (fun h => ?_)
    refine sxs_if (tst_cm (cm_eqS (ev_var 2 rfl) ev_str)) (fun h => absurd h (by decide +kernel)) (fun h => ?_)
    refine sxs_if (tst_cm (cm_eqS (ev_var 2 rfl) ev_str)) (fun h => ?_) (fun h => absurd h (by decide +kernel))
    refine sxs_setS 5 (s_call c G_by_itself ⟨fm, ws, low, i, j⟩ hi (fun _ h => h) (as_cons (Ev.s (ev_var 0 rfl)) (as_cons (Ev.s (ev_var 1 rfl)) (as_cons (Ev.s (ev_var 3 rfl)) (as_cons (Ev.s (ev_var 4 rfl)) as_nil))))) ?_ c.nd
    refine sxs_nil ?_
    refine sxs_nil ?_
    refine sxs_nil ?_
    refine sxs_nil ?_
    refine sxs_nil ?_
    exact tail _ rfl
/-! ### a raise -/
structure InLift where
  kd : Kd
  b : InBy
  pap : List PyData
def raiseD (k : Kd) (i : Nat) (j : Int) (p : Plc) : PyData := .tuple [.str (kdS k), .int i, .int j, plD p]
def rLift (i : InLift) : Except Ec Slot → List Asl → Prop := fun o outs => match reachP i.kd i.b.f i.b.ws i.b.low i.b.i i.b.j with
  | none => o = .ok (fz (.bool false)) ∧ outs = [owA (i.b.low.map plD), owA i.pap]
  | some p => o = .ok (fz (.bool true)) ∧ outs = [owA ((i.b.low.set i.b.i p).map plD), owA (i.pap ++ [raiseD i.kd i.b.i i.b.j p])]
abbrev C_lift (P : Program) (w : World) (K : PySem.W.Frag) (mg : Str → Option Value) (base : Heap) (C : Ec → Addr) := Callee P w K mg base 7 "lift" (spM K C 6 (fun i : InLift => [.ro (fz (bkD (i.b.f, i.b.ws))), .mu (owA (i.b.low.map plD)), .mu (owA i.pap), .ro (fz (.str (kdS i.kd))), .ro (fz (.int i.b.i)), .ro (fz (.int i.b.j))]) (fun i => preBy i.b ∧ i.pap.length < 9000000) rLift)
theorem ok_lift (G_reach : C_reach P w K mg base C) (D : Df K mg "lift" s_lift) : C_lift P w K mg base C := by
  refine callee_ofM D sc_lift (fun _ _ _ _ _ _ us hl => match us, hl with | [_, _, _, _, _, _], _ => rfl) (fun f cdv A outer s H E c i hi ad => ?_)
  obtain ⟨kd, ⟨fm, ws, low, i, j⟩, pap⟩ := i
  obtain ⟨hi, hpl⟩ := hi
  have hi : preBy ⟨fm, ws, low, i, j⟩ := hi
  have hpl : pap.length < 9000000 := hpl
  have hil : i < low.length := hi.2
  show Sxs _ _ _ [some (fz (bkD (fm, ws))), some (ow (some (ad 1)) (low.map plD)), some (ow (some (ad 2)) pap), some (fz (.str (kdS kd))), some (fz (.int i)), some (fz (.int j)), none] _
  have fz1 : FrzL [some (fz (bkD (fm, ws))), some (ow (some (ad 1)) (low.map plD)), some (ow (some (ad 2)) pap), some (fz (.str (kdS kd))), some (fz (.int i)), some (fz (.int j)), none] [some (fz (bkD (fm, ws))), some (fz (.list (low.map plD))), none, some (fz (.str (kdS kd))), some (fz (.int i)), some (fz (.int j)), none] :=
    .keep brw_fz (.keep brw_ow (.skip (.keep brw_fz (.keep brw_fz (.keep brw_fz (.skip .nil))))))
  refine sxs_setS 6 (s_borrow fz1 (s_call c G_reach (kd, ⟨fm, ws, low, i, j⟩) hi (fun _ h => h) (as_cons (Ev.s (ev_var 0 rfl)) (as_cons (Ev.s (ev_var 1 rfl)) (as_cons (Ev.s (ev_var 3 rfl)) (as_cons (Ev.s (ev_var 4 rfl)) (as_cons (Ev.s (ev_var 5 rfl)) as_nil)))))) (oS_free _)) ?_ c.nd
  have hr : ∀ o outs, (match reachP kd fm ws low i j with | none => o = Except.ok (fz (.bool false)) ∧ outs = [owA (low.map plD), owA pap] | some p => o = Except.ok (fz (.bool true)) ∧ outs = [owA ((low.set i p).map plD), owA (pap ++ [raiseD kd i j p])]) → rLift ⟨kd, ⟨fm, ws, low, i, j⟩, pap⟩ o outs := fun o outs h => h
  generalize reachP kd fm ws low i j = rr at hr
  cases rr with
  | none =>
    refine sxs_if (t := true) (Tst.to (tst_cm (cm_isN (ev_var 6 rfl))) rfl) (fun h => ?_) (fun h => nomatch h)
    refine sxs_ret ev_bl ?_
    exact ⟨[owA (low.map plD), owA pap], hr _ _ ⟨rfl, rfl⟩, rfl, rfl, trivial⟩
  | some p =>
    refine sxs_freezeT 6 (t := plT p) rfl ?_
    rw [plT_er]
    refine sxs_if (t := false) (Tst.to (tst_cm (cm_isN (ev_var 6 rfl))) rfl) (fun h => nomatch h) (fun h => ?_)
    refine sxs_nil ?_
    refine sxs_setItem (n := i) 1 rfl (ev_var 6 rfl) (ev_var 4 rfl) (by rw [List.length_map]; exact ixN_nat hil) ?_
    refine sxs_append 2 rfl (ev_tup (eva_cons (ev_var 3 rfl) (eva_cons (ev_var 4 rfl) (eva_cons (ev_var 5 rfl) (eva_cons (ev_var 6 rfl) eva_nil))))) (Nat.lt_of_lt_of_le hpl (szm (by decide))) ?_
    refine sxs_ret ev_bl ?_
    refine ⟨[owA ((low.set i p).map plD), owA (pap ++ [raiseD kd i j p])], hr _ _ ⟨rfl, rfl⟩, ?_, rfl, trivial⟩
    rw [List.map_set]
    rfl
end
end Tl

/-! Raises along a run of kept words. -/
namespace Tl
open PySem PySem.Spec PyProof.Rows L2 PV
structure okSet (f : Frm) (ws : List Wrd) (low : List Plc) : Prop where
  frm : okFrm f
  len : ws.length = low.length
  n : low.length ≤ 100
  wrd : ∀ w ∈ ws, okWrd low.length w
  row : okLow f low
  page : ∀ k, (plAt low k).1 ≤ f.most + 3
  most : f.most ≤ 900
  size : low.length * ((f.most + 4) * f.high) < 9000000
section
variable {f : Frm} {ws : List Wrd} {low : List Plc}
theorem okSet.bk (h : okSet f ws low) : okBk f ws low := by
  refine ⟨h.frm, ⟨h.n, fun k => ?_⟩, h.len, h.wrd⟩
  have h1 := h.page k
  have h2 := h.row k
  have h3 := h.most
  have h4 := h.frm.2.1
  omega
theorem okSet.set (h : okSet f ws low) {i : Nat} {p : Plc} (hi : i < low.length) (hr : p.2 < f.high) (hp : p.1 ≤ f.most + 3) : okSet f ws (low.set i p) := by
  refine ⟨h.frm, by rw [List.length_set]; exact h.len, by rw [List.length_set]; exact h.n, by rw [List.length_set]; exact h.wrd, fun k => ?_, fun k => ?_, h.most, by rw [List.length_set]; exact h.size⟩
  · rw [plAt_set hi]; split; exact hr; exact h.row k
  · rw [plAt_set hi]; split; exact hp; exact h.page k
theorem okSet.sum (h : okSet f ws low) : sumIx f low < 9000000 := Nat.lt_of_le_of_lt (sum_le h.row h.page) h.size
/-- a state on the way -/
structure Way (f : Frm) (ws : List Wrd) (low : List Plc) (pap : List PyData) (now : List Plc) (pap' : List PyData) (n : Nat) : Prop where
  set : okSet f ws now
  raises : Raises f ws low now n
  plen : pap'.length = pap.length + n
theorem Way.len {pap : List PyData} {now : List Plc} {pap' : List PyData} {n : Nat} (h : Way f ws low pap now pap' n) : now.length = low.length := h.raises.len
theorem Way.pap {pap : List PyData} {now : List Plc} {pap' : List PyData} {n : Nat} (h : Way f ws low pap now pap' n) (hl : okLow f low) (hp : pap.length ≤ sumIx f low) : pap'.length ≤ sumIx f now ∧ pap'.length < 9000000 := by
  have h1 := h.raises.sum hl
  have h2 := h.plen
  have h3 := h.set.sum
  omega
theorem Way.step {pap : List PyData} {now : List Plc} {pap' : List PyData} {n : Nat} (h : Way f ws low pap now pap' n) {k : Kd} {i : Nat} {j : Int} {p : Plc} (hi : i < now.length) (hr : reachP k f ws now i j = some p) (hp : p.1 ≤ f.most + 3) (x : PyData) : Way f ws low pap (now.set i p) (pap' ++ [x]) (n + 1) := by
  obtain ⟨h1, h2, _⟩ := reach_some hr
  exact ⟨h.set.set hi (reason_row h.set.row h1) hp, .step h.raises hi h1 h2, by rw [List.length_append, h.plen]; rfl⟩
theorem Way.refl {pap : List PyData} (h : okSet f ws low) : Way f ws low pap low pap 0 := ⟨h, .refl _, rfl⟩
end
theorem fzb_inj (K : PySem.W.Frag) {a b : Bool} (h : fz (.bool a) = fz (.bool b)) : a = b := by
  have h1 : (fz (.bool a)).R K (fun _ => none) (.bl a) [] := ⟨rfl, .bl a⟩
  rw [h] at h1
  have := h1.2
  cases this
  rfl
theorem rLift_cases {i : InLift} {o : Except Ec Slot} {outs : List Asl} (h : rLift i o outs) : (reachP i.kd i.b.f i.b.ws i.b.low i.b.i i.b.j = none ∧ o = .ok (fz (.bool false)) ∧ outs = [owA (i.b.low.map plD), owA i.pap]) ∨
    ∃ p, reachP i.kd i.b.f i.b.ws i.b.low i.b.i i.b.j = some p ∧ o = .ok (fz (.bool true)) ∧ outs = [owA ((i.b.low.set i.b.i p).map plD), owA (i.pap ++ [raiseD i.kd i.b.i i.b.j p])] := by
  unfold rLift at h
  cases e : reachP i.kd i.b.f i.b.ws i.b.low i.b.i i.b.j with
  | none => rw [e] at h; exact .inl ⟨rfl, h⟩
  | some p => rw [e] at h; exact .inr ⟨p, rfl, h⟩
theorem kept_place {f : Frm} {ws : List Wrd} {low : List Plc} {i : Nat} {p : Plc} (h : reachP .kept f ws low i ((i + 1 : Nat) : Int) = some p) : p = ((plAt low (i + 1)).1, 0) := by
  have h := (reach_some h).2.2
  have h : byNext f ws low i ((i + 1 : Nat) : Int) = some p := h
  unfold byNext at h
  split at h
  · exact (Option.some.inj h).symm
  · cases h
section
variable {P : Program} {w : World} {K : PySem.W.Frag} {mg : Str → Option Value} {base : Heap} {C : Ec → Addr}
structure InBack where
  f : Frm
  ws : List Wrd
  low : List Plc
  pap : List PyData
  i : Nat
def rBack (b : InBack) : Except Ec Slot → List Asl → Prop := fun o outs => o = .ok (fz .none) ∧ ∃ now pap' n, outs = [owA (now.map plD), owA pap'] ∧ Way b.f b.ws b.low b.pap now pap' n ∧ (∀ k, (plAt now k).1 < b.f.most ∨ plAt now k = plAt b.low k) ∧ (n = 0 → 0 < b.i → (wdAt b.ws b.i).kept = true → leP ((plAt b.low b.i).1, 0) (plAt b.low (b.i - 1)))
abbrev C_lift_back (P : Program) (w : World) (K : PySem.W.Frag) (mg : Str → Option Value) (base : Heap) (C : Ec → Addr) := Callee P w K mg base 8 "lift_back" (spM K C 4 (fun b : InBack => [.ro (fz (bkD (b.f, b.ws))), .mu (owA (b.low.map plD)), .mu (owA b.pap), .ro (fz (.int b.i))]) (fun b => okSet b.f b.ws b.low ∧ b.i < b.low.length ∧ (plAt b.low b.i).1 < b.f.most ∧ b.pap.length ≤ sumIx b.f b.low) rBack)
theorem ok_lift_back (G_lift : C_lift P w K mg base C) (D : Df K mg "lift_back" s_lift_back) : C_lift_back P w K mg base C := by
  refine callee_ofM D sc_lift_back (fun _ _ _ _ _ _ us hl => match us, hl with | [_, _, _, _], _ => rfl) (fun f cdv A outer s H E c b hi ad => ?_)
  obtain ⟨fm, ws, low, pap, i⟩ := b
  obtain ⟨hset, hil, hpg, hpp⟩ := hi
  have hset : okSet fm ws low := hset
  have hil : i < low.length := hil
  have hpg : (plAt low i).1 < fm.most := hpg
  have hpp : pap.length ≤ sumIx fm low := hpp
  have e4 : muIx 0 ((fun b : InBack => [Ar.ro (fz (bkD (b.f, b.ws))), .mu (owA (b.low.map plD)), .mu (owA b.pap), .ro (fz (.int b.i))]) ⟨fm, ws, low, pap, i⟩) = [1, 2] := rfl
  show Sxs _ _ _ [some (fz (bkD (fm, ws))), some (ow (some (ad 1)) (low.map plD)), some (ow (some (ad 2)) pap), some (fz (.int i)), none] _
  refine sxs_set 4 (ev_var 3 rfl) ?_ c.nd
  refine sxs_whileM c (fun m ρ => ∃ now pap' n, ρ = [some (fz (bkD (fm, ws))), some (ow (some (ad 1)) (now.map plD)), some (ow (some (ad 2)) pap'), some (fz (.int i)), some (fz (.int m))] ∧ Way fm ws low pap now pap' n ∧ (∀ k, (plAt now k).1 < fm.most ∨ plAt now k = plAt low k) ∧ m ≤ i ∧ (plAt now m).1 < fm.most ∧ (n = 0 → m = i)) (m0 := i)
    ⟨low, pap, 0, rfl, Way.refl hset, (fun k => .inr rfl), Nat.le_refl _, hpg, fun _ => rfl⟩ (fun m ρ hP => ?_)
  obtain ⟨now, pap', n, rfl, hway, hbd, hmi, hmp, hn0⟩ := hP
  have hlen := hway.len
  obtain ⟨hp1, hp2⟩ := hway.pap hset.row hpp
  refine ⟨_, tstM_and2 (p := decide (0 < m)) (R := boolR (fun o ρ' => ∃ outs, rLift ⟨.kept, ⟨fm, ws, now, m - 1, (m : Int)⟩, pap'⟩ o outs ∧ ρ' = giveAll (dropAll [some (fz (bkD (fm, ws))), some (ow (some (ad 1)) (now.map plD)), some (ow (some (ad 2)) pap'), some (fz (.int i)), some (fz (.int m))] [(1, some (ad 1)), (2, some (ad 2))]) [(1, some (ad 1)), (2, some (ad 2))] outs)) ((tst_cm (cm_gt (ev_var 4 rfl) ev_int)).to (by rw [decide_eq_decide]; omega)) (fun h0 => ?_), fun ρ' hR => ?_, fun ρ' hR => ?_, fun cl ρ' hR => ?_⟩
  · have h0 : 0 < m := of_decide_eq_true h0
    refine tstM_val (evm_call (hix := by simp) [(1, some (ad 1)), (2, some (ad 2))] c G_lift ⟨.kept, ⟨fm, ws, now, m - 1, (m : Int)⟩, pap'⟩ ⟨⟨hway.set.bk, by show m - 1 < now.length; omega⟩, hp2⟩ (am_ro (Ev.s (ev_var 0 rfl)) (am_mu 1 (some (ad 1)) rfl (am_mu 2 (some (ad 2)) rfl (am_ro (Ev.s (ev_str.to rfl)) (am_ro (Ev.s ((ev_sub (ev_var 4 rfl) ev_int).to (e := .int ((m - 1 : Nat) : Int)) (by congr 1; omega))) (am_ro (Ev.s (ev_var 4 rfl)) am_nil))))))) ?_
    rintro S ρ' ⟨outs, hr, _⟩
    rcases rLift_cases hr with ⟨_, e, _⟩ | ⟨_, _, e, _⟩
    · exact ⟨false, Except.ok.inj e⟩
    · exact ⟨true, Except.ok.inj e⟩
  · rcases hR with ⟨_, e, _⟩ | ⟨hp, outs, hr, rfl⟩
    · exact absurd (Except.ok.inj e) (by decide)
    · have h0 : 0 < m := of_decide_eq_true hp
      rcases rLift_cases hr with ⟨_, e, _⟩ | ⟨p, hre, _, rfl⟩
      · have := fzb_inj K (Except.ok.inj e)
        cases this
      · have hre : reachP .kept fm ws now (m - 1) (m : Int) = some p := hre
        have hpl : p = ((plAt now m).1, 0) := by
          obtain ⟨q, rfl⟩ : ∃ q, m = q + 1 := ⟨m - 1, by omega⟩
          rw [Nat.add_sub_cancel] at hre
          exact kept_place hre
        show Sxs _ _ _ [some (fz (bkD (fm, ws))), some (ow (some (ad 1)) ((now.set (m - 1) p).map plD)), some (ow (some (ad 2)) (pap' ++ [raiseD .kept (m - 1) (m : Int) p])), some (fz (.int i)), some (fz (.int m))] _
        refine sxs_set 4 ((ev_sub (ev_var 4 rfl) ev_int).to (e := .int ((m - 1 : Nat) : Int)) (by congr 1; omega)) ?_ c.nd
        have hlt : m - 1 < now.length := by omega
        refine sxs_nil ⟨_, Wk.refl _, m - 1, by omega, now.set (m - 1) p, pap' ++ [raiseD .kept (m - 1) (m : Int) p], n + 1, rfl, hway.step hlt hre (by rw [hpl]; show (plAt now m).1 ≤ _; omega) _, fun k => ?_, by omega, ?_, fun z => by omega⟩
        · rw [plAt_set hlt]
          split
          · left; rw [hpl]; exact hmp
          · exact hbd k
        · rw [plAt_set hlt, if_pos rfl, hpl]; exact hmp
  · have fin : ∀ o : List PyData, (n = 0 → 0 < i → (wdAt ws i).kept = true → leP ((plAt low i).1, 0) (plAt low (i - 1))) → Sxs (cxD P w K mg base ["book", "now", "paper", "i", "at"] "lift_back" s_lift_back f cdv A outer s H E) (fun c σ H => E (.ref (C c)) none H) [] [some (fz (bkD (fm, ws))), some (ow (some (ad 1)) (now.map plD)), some (ow (some (ad 2)) pap'), some (fz (.int i)), some (fz (.int m))] (bodyM ad [1, 2] (rBack ⟨fm, ws, low, pap, i⟩)) := fun _ hx =>
      sxs_nil ⟨[owA (now.map plD), owA pap'], ⟨rfl, now, pap', n, rfl, hway, hbd, hx⟩, rfl, rfl, trivial⟩
    rcases hR with ⟨hp, _, rfl⟩ | ⟨hp, outs, hr, rfl⟩
    · have h0 : ¬ 0 < m := of_decide_eq_false hp
      refine fin [] fun hn h1 => ?_
      have := hn0 hn
      omega
    · have h0 : 0 < m := of_decide_eq_true hp
      rcases rLift_cases hr with ⟨hre, _, rfl⟩ | ⟨p, _, e, _⟩
      · have hre : reachP .kept fm ws now (m - 1) (m : Int) = none := hre
        refine fin [] fun hn h1 hk => ?_
        have hmi' := hn0 hn
        subst hmi'
        subst hn
        have e2 := hway.raises.zero
        subst e2
        obtain ⟨q, rfl⟩ : ∃ q, m = q + 1 := ⟨m - 1, by omega⟩
        rw [Nat.add_sub_cancel] at hre ⊢
        refine reach_none hre ?_
        show byNext fm ws now q ((q + 1 : Nat) : Int) = _
        unfold byNext
        rw [if_pos ⟨by omega, by omega, hk⟩]
      · have := fzb_inj K (Except.ok.inj e)
        cases this
  · rcases hR with ⟨_, e, _⟩ | ⟨_, outs, hr, _⟩
    · cases e
    · rcases rLift_cases hr with ⟨_, e, _⟩ | ⟨_, _, e, _⟩ <;> cases e
end
end Tl

/-! The pure-value layer: both ways of an if lead to one kind of environment. -/
namespace PV
open PySem PySem.Spec PyProof.Rows L2
def joinP (J : Env → Prop) (Φ : Out → Prop) : Out → Prop
  | .next ρ => ∃ ρ', Wk ρ ρ' ∧ J ρ'
  | o => Φ o
section
variable {X : Cx} {W : Wc} {ρ ρ' : Env} {e a b : Expr} {pos : Pos} {C : Ec → Addr} {k : Nat} {rest : List Stmt} {Φ : Out → Prop}
theorem join_then {J : Env → Prop} (k : ∀ ρ', J ρ' → Sxs X W rest ρ' Φ) : ∀ o, joinP J Φ o → thenS X W rest Φ o := fun o h => by
  cases o with
  | next ρ => obtain ⟨ρ', w, j⟩ := h; exact sxs_weak w (k ρ' j)
  | ret S ρ => exact h
  | brk ρ => exact h
  | cont ρ => exact h
  | raise c ρ => exact h
theorem sxs_ifMJ (J : Env → Prop) {c : Expr} {a b : List Stmt} {R : Except Ec Bool → Env → Prop} (hc : TstM X W ρ c R) (ha : ∀ ρ', R (.ok true) ρ' → Sxs X W a ρ' (joinP J Φ)) (hb : ∀ ρ', R (.ok false) ρ' → Sxs X W b ρ' (joinP J Φ)) (kr : ∀ cl ρ', R (.error cl) ρ' → Φ (.raise cl ρ')) (k : ∀ ρ', J ρ' → Sxs X W rest ρ' Φ) : Sxs X W (.If c a b pos :: rest) ρ Φ :=
  sxs_ifM hc (fun ρ' h => sxs_mono (ha ρ' h) (join_then k)) (fun ρ' h => sxs_mono (hb ρ' h) (join_then k)) kr
theorem sxs_ifJP (J : Env → Prop) {c : Expr} {a b : List Stmt} {t : Bool} (hc : Tst X W ρ c t) (ha : t = true → Sxs X W a ρ (joinP J Φ)) (hb : t = false → Sxs X W b ρ (joinP J Φ)) (k : ∀ ρ', J ρ' → Sxs X W rest ρ' Φ) : Sxs X W (.If c a b pos :: rest) ρ Φ :=
  sxs_if hc (fun h => sxs_mono (ha h) (join_then k)) (fun h => sxs_mono (hb h) (join_then k))
end
end PV

/-! A sweep, plain: what holds where nothing was raised. -/
namespace Tl
open PySem PySem.Spec PyProof.Rows L2 PV
section
variable {f : Frm} {ws : List Wrd} {low : List Plc}
/-- what is known at word i of a sweep that raised nothing so far -/
structure GoodS (f : Frm) (ws : List Wrd) (low : List Plc) (i ra pa wd hg : Nat) : Prop where
  tr : ∀ k, k < i → TrueAt f ws low k
  ral : 0 < i → ra < i
  row : ∀ k, ra ≤ k → k < i → plAt low k = plAt low (i - 1)
  wd1 : 0 < i → wd = (i - 1 - ra) + sumR (ownW f low ws) ra (i - ra)
  wd2 : 0 < i → wd = stW low (ownW f low ws) (i - 1)
  pal : 0 < i → pa < i
  page : ∀ k, pa ≤ k → k < i → (plAt low k).1 = (plAt low (i - 1)).1
  hg1 : 0 < i → hg = sumR (ftW f low ws) pa (i - pa)
  hg2 : 0 < i → hg = stH low (ftW f low ws) (i - 1)
def raN (low : List Plc) (i ra : Nat) : Nat := if 0 < i ∧ plAt low i = plAt low (i - 1) then ra else i
def wdN (low : List Plc) (i wd wi : Nat) : Nat := if 0 < i ∧ plAt low i = plAt low (i - 1) then wd + 1 + wi else wi
def paN (low : List Plc) (i pa : Nat) : Nat := if 0 < i ∧ (plAt low i).1 = (plAt low (i - 1)).1 then pa else i
def hgN (low : List Plc) (i hg ft : Nat) : Nat := if 0 < i ∧ (plAt low i).1 = (plAt low (i - 1)).1 then hg + ft else ft
theorem good_step (hrow : okLow f low) {i ra pa wd hg : Nat} (g : GoodS f ws low i ra pa wd hg)
    (h1 : reachP .never f ws low i i = none) (h2 : reachP .behind f ws low i (i - 1) = none)
    (h3 : f.wide < wdN low i wd (ownW f low ws i) → reachP .wide f ws low i (raN low i ra) = none)
    (h4 : f.high < (plAt low i).2 + 1 + hgN low i hg (ftW f low ws i) → reachP .high f ws low i (paN low i pa) = none)
    (h5 : (plAt low i).1 < f.most) (h6 : 0 < i → (wdAt ws i).kept = true → leP ((plAt low i).1, 0) (plAt low (i - 1))) :
    GoodS f ws low (i + 1) (raN low i ra) (paN low i pa) (wdN low i wd (ownW f low ws i)) (hgN low i hg (ftW f low ws i)) := by
  have n1 : ownW f low ws i ≤ f.wide ∧ ftW f low ws i < f.high := by
    apply Classical.byContradiction
    intro z
    have := reach_none (p := (f.most, 0)) h1 (by show byItself f ws low i i = _; unfold byItself; rw [if_pos ⟨rfl, by omega⟩])
    unfold leP at this
    dsimp only at this
    omega
  have n2 : leP (rBehind f ws low i) (plAt low i) := reach_none h2 (by show byAhead f ws low i (i - 1) = _; unfold byAhead; rw [if_pos rfl])
  have ew : wdN low i wd (ownW f low ws i) = stW low (ownW f low ws) i := by
    unfold wdN
    cases i with
    | zero => rw [if_neg (fun z => absurd z.1 (by omega))]; rfl
    | succ i =>
      rw [Nat.add_sub_cancel, stW_succ]
      by_cases e : plAt low (i + 1) = plAt low i
      · rw [if_pos ⟨by omega, e⟩, if_pos e.symm, g.wd2 (by omega), Nat.add_sub_cancel]
      · rw [if_neg (fun z => e z.2), if_neg (fun z => e z.symm)]
  have eh : hgN low i hg (ftW f low ws i) = stH low (ftW f low ws) i := by
    unfold hgN
    cases i with
    | zero => rw [if_neg (fun z => absurd z.1 (by omega))]; rfl
    | succ i =>
      rw [Nat.add_sub_cancel, stH_succ]
      by_cases e : (plAt low (i + 1)).1 = (plAt low i).1
      · rw [if_pos ⟨by omega, e⟩, if_pos e.symm, g.hg2 (by omega), Nat.add_sub_cancel]
      · rw [if_neg (fun z => e z.2), if_neg (fun z => e z.symm), Nat.zero_add]
  have ew1 : wdN low i wd (ownW f low ws i) = (i - raN low i ra) + sumR (ownW f low ws) (raN low i ra) (i + 1 - raN low i ra) := by
    unfold wdN raN
    by_cases e : 0 < i ∧ plAt low i = plAt low (i - 1)
    · rw [if_pos e, if_pos e]
      have a := g.wd1 e.1
      have b := g.ral e.1
      have c : sumR (ownW f low ws) ra (i + 1 - ra) = sumR (ownW f low ws) ra (i - ra) + ownW f low ws i := by
        rw [show i + 1 - ra = (i - ra) + 1 by omega]
        show _ + ownW f low ws (ra + (i - ra)) = _
        rw [show ra + (i - ra) = i by omega]
      rw [c]
      omega
    · rw [if_neg e, if_neg e, show i + 1 - i = 0 + 1 by omega]
      show _ = i - i + (0 + ownW f low ws (i + 0))
      rw [Nat.add_zero]; omega
  have eh1 : hgN low i hg (ftW f low ws i) = sumR (ftW f low ws) (paN low i pa) (i + 1 - paN low i pa) := by
    unfold hgN paN
    by_cases e : 0 < i ∧ (plAt low i).1 = (plAt low (i - 1)).1
    · rw [if_pos e, if_pos e]
      have a := g.hg1 e.1
      have b := g.pal e.1
      rw [show i + 1 - pa = (i - pa) + 1 by omega]
      show _ = sumR (ftW f low ws) pa (i - pa) + ftW f low ws (pa + (i - pa))
      rw [show pa + (i - pa) = i by omega]
      omega
    · rw [if_neg e, if_neg e, show i + 1 - i = 0 + 1 by omega]
      show _ = 0 + ftW f low ws (i + 0)
      rw [Nat.add_zero]; omega
  have er : ∀ k, raN low i ra ≤ k → k < i + 1 → plAt low k = plAt low i := by
    intro k hk1 hk2
    unfold raN at hk1
    by_cases e : 0 < i ∧ plAt low i = plAt low (i - 1)
    · rw [if_pos e] at hk1
      by_cases hki : k = i
      · rw [hki]
      · rw [g.row k hk1 (by omega), e.2]
    · rw [if_neg e] at hk1
      rw [show k = i by omega]
  have ep : ∀ k, paN low i pa ≤ k → k < i + 1 → (plAt low k).1 = (plAt low i).1 := by
    intro k hk1 hk2
    unfold paN at hk1
    by_cases e : 0 < i ∧ (plAt low i).1 = (plAt low (i - 1)).1
    · rw [if_pos e] at hk1
      by_cases hki : k = i
      · rw [hki]
      · rw [g.page k hk1 (by omega), e.2]
    · rw [if_neg e] at hk1
      rw [show k = i by omega]
  have rl : raN low i ra ≤ i := by
    unfold raN
    split
    · have := g.ral (by omega); omega
    · exact Nat.le_refl _
  have pl : paN low i pa ≤ i := by
    unfold paN
    split
    · have := g.pal (by omega); omega
    · exact Nat.le_refl _
  have hw : stW low (ownW f low ws) i ≤ f.wide := by
    rw [← ew]
    apply Nat.le_of_not_lt
    intro z
    have h3 := h3 z
    by_cases e : raN low i ra = i
    · rw [ew1, e, show i + 1 - i = 0 + 1 by omega] at z
      have : sumR (ownW f low ws) i (0 + 1) = 0 + ownW f low ws (i + 0) := rfl
      rw [this, Nat.add_zero] at z
      omega
    · have := reach_none (p := behindP f (plAt low (raN low i ra)) 1) h3 (by
        show byWidth f ws low i (raN low i ra) = _
        unfold byWidth
        rw [if_neg (by omega), Int.toNat_natCast, if_pos (by rw [ew1] at z; rw [show i - raN low i ra + 1 = i + 1 - raN low i ra by omega]; exact z)])
      rw [er _ (Nat.le_refl _) (by omega)] at this
      have hr := hrow i
      unfold behindP rowsOn leP at this
      rw [if_neg (by decide), if_pos (by decide)] at this
      split at this <;> (try dsimp only at this) <;> omega
  have hh : (plAt low i).2 + 1 + stH low (ftW f low ws) i ≤ f.high := by
    rw [← eh]
    apply Nat.le_of_not_lt
    intro z
    have := reach_none (p := ((plAt low i).1 + 1, 0)) (h4 z) (by
      show byHeight f ws low i (paN low i pa) = _
      unfold byHeight
      rw [if_neg (by rw [Int.toNat_natCast, ep _ (Nat.le_refl _) (by omega)]; omega), Int.toNat_natCast, if_pos (by rw [eh1] at z; rw [show i - paN low i pa + 1 = i + 1 - paN low i pa by omega]; exact z)])
    unfold leP at this
    dsimp only at this
    omega
  refine ⟨fun k hk => ?_, fun _ => by omega, fun k a b => er k a b, fun _ => by rw [ew1]; congr 1, fun _ => ew, fun _ => by omega, fun k a b => ep k a b, fun _ => eh1, fun _ => eh⟩
  by_cases hki : k = i
  · subst hki
    refine ⟨h5, n2, hw, hh, fun h0 hk => ?_⟩
    have a := h6 h0 hk
    have b := n2
    unfold rBehind at b
    rw [if_pos h0] at b
    have b := leP_trans (behind_ge (wdAt ws k).lead (hrow (k - 1))) (leP_trans (later_r _ _) (leP_trans (first_ge f _ (wdAt ws k).lead) b))
    unfold leP at a b
    dsimp only at a
    omega
  · exact g.tr k (by omega)
theorem good_0 : GoodS f ws low 0 0 0 0 0 := ⟨fun k hk => absurd hk (by omega), fun h => absurd h (by omega), fun k _ hk => absurd hk (by omega), fun h => absurd h (by omega), fun h => absurd h (by omega), fun h => absurd h (by omega), fun k _ hk => absurd hk (by omega), fun h => absurd h (by omega), fun h => absurd h (by omega)⟩
theorem Way.trans {pap : List PyData} {now now2 : List Plc} {pap' pap2 : List PyData} {n m : Nat} (h : Way f ws low pap now pap' n) (h' : Way f ws now pap' now2 pap2 m) : Way f ws low pap now2 pap2 (n + m) := ⟨h'.set, h.raises.trans h'.raises, by rw [h'.plen, h.plen, Nat.add_assoc]⟩
theorem Way.zero {pap : List PyData} {now : List Plc} {pap' : List PyData} (h : Way f ws low pap now pap' 0) : now = low := h.raises.zero
theorem rBehind_page {i : Nat} (h1 : (plAt low i).1 ≤ f.most) (h2 : 0 < i → (plAt low (i - 1)).1 < f.most) : (rBehind f ws low i).1 ≤ f.most + 2 := by
  unfold rBehind
  have a := first_page (f := f) (p := if 0 < i then laterP (plAt low i) (behindP f (plAt low (i - 1)) (wdAt ws i).lead) else plAt low i) (wdAt ws i).lead
  refine Nat.le_trans a ?_
  split
  · rename_i h0
    have b := behind_page (f := f) (p := plAt low (i - 1)) (wdAt ws i).lead
    have c := h2 h0
    unfold laterP
    split <;> omega
  · omega
end
end Tl

/-! A sweep, walked. -/
namespace Tl
open PySem PySem.Spec PyProof.Rows L2 PV
def envW (fm : Frm) (ws : List Wrd) (ad : Nat → Addr) (now : List Plc) (pap : List PyData) (ra pa wd hg : Nat) (i wi ft : Option Slot) : PV.Env := [some (fz (bkD (fm, ws))), some (ow (some (ad 1)) (now.map plD)), some (ow (some (ad 2)) pap), some (fz (frD fm)), some (fz (.int ra)), some (fz (.int pa)), some (fz (.int wd)), some (fz (.int hg)), i, wi, ft]
theorem lift_out {fm : Frm} {ws : List Wrd} {low now : List Plc} {pap pap' : List PyData} {n i : Nat} {kd : Kd} {j : Int} {bound : Nat} (hw : Way fm ws low pap now pap' n) (hi : i < now.length) (hbm : bound ≤ fm.most + 3) (hb : ∀ p, reachP kd fm ws now i j = some p → p.1 ≤ bound) {o : Except Ec Slot} {outs : List Asl} (hr : rLift ⟨kd, ⟨fm, ws, now, i, j⟩, pap'⟩ o outs) :
    ∃ now1 pap1 n1, outs = [owA (now1.map plD), owA pap1] ∧ Way fm ws low pap now1 pap1 n1 ∧ (∀ k, k ≠ i → plAt now1 k = plAt now k) ∧ (plAt now1 i = plAt now i ∨ (plAt now1 i).1 ≤ bound) ∧ (n1 = 0 → n = 0 ∧ now1 = now ∧ reachP kd fm ws now i j = none) ∧ ((o = .ok (fz (.bool false)) ∧ reachP kd fm ws now i j = none ∧ now1 = now ∧ pap1 = pap' ∧ n1 = n) ∨ (o = .ok (fz (.bool true)) ∧ n1 = n + 1)) := by
  rcases rLift_cases hr with ⟨hn, e, rfl⟩ | ⟨p, hp, e, rfl⟩
  · exact ⟨now, pap', n, rfl, hw, fun _ _ => rfl, .inl rfl, fun h => ⟨h, rfl, hn⟩, .inl ⟨e, hn, rfl, rfl, rfl⟩⟩
  · have hp : reachP kd fm ws now i j = some p := hp
    have hpb := hb p hp
    refine ⟨now.set i p, _, n + 1, rfl, hw.step hi hp (by omega) _, fun k hk => ?_, .inr ?_, fun h => by omega, .inr ⟨e, rfl⟩⟩
    · rw [plAt_set hi, if_neg hk]
    · rw [plAt_set hi, if_pos rfl]; exact hpb
theorem never_place {fm : Frm} {ws : List Wrd} {now : List Plc} {i : Nat} {p : Plc} (h : reachP .never fm ws now i i = some p) : p.1 ≤ fm.most := by
  have h : byItself fm ws now i i = some p := (reach_some h).2.2
  unfold byItself at h
  split at h
  · obtain rfl := Option.some.inj h; exact Nat.le_refl _
  · cases h
theorem behind_place {fm : Frm} {ws : List Wrd} {now : List Plc} {i : Nat} {j : Int} {p : Plc} (h : reachP .behind fm ws now i j = some p) : p = rBehind fm ws now i := by
  have h : byAhead fm ws now i j = some p := (reach_some h).2.2
  unfold byAhead at h
  split at h
  · exact (Option.some.inj h).symm
  · cases h
theorem wide_place {fm : Frm} {ws : List Wrd} {now : List Plc} {i j : Nat} {p : Plc} (h : reachP .wide fm ws now i j = some p) : j < i ∧ p.1 ≤ (plAt now j).1 + 2 := by
  have h : byWidth fm ws now i j = some p := (reach_some h).2.2
  unfold byWidth at h
  split at h
  · cases h
  · split at h
    · obtain rfl := Option.some.inj h
      rw [Int.toNat_natCast]
      exact ⟨by omega, behind_page 1⟩
    · cases h
theorem high_place {fm : Frm} {ws : List Wrd} {now : List Plc} {i : Nat} {j : Int} {p : Plc} (h : reachP .high fm ws now i j = some p) : p.1 = (plAt now i).1 + 1 := by
  have h : byHeight fm ws now i j = some p := (reach_some h).2.2
  unfold byHeight at h
  split at h
  · cases h
  · split at h
    · obtain rfl := Option.some.inj h; rfl
    · cases h
section
variable {P : Program} {w : World} {K : PySem.W.Frag} {mg : Str → Option Value} {base : Heap} {C : Ec → Addr}
structure InSweep where
  f : Frm
  ws : List Wrd
  low : List Plc
  pap : List PyData
def rSweep (b : InSweep) : Except Ec Slot → List Asl → Prop := fun o outs => o = .ok (fz .none) ∧ ∃ now pap' n, outs = [owA (now.map plD), owA pap'] ∧ Way b.f b.ws b.low b.pap now pap' n ∧ (n = 0 → (∀ k, (plAt now k).1 < b.f.most) → TrueL b.f b.ws now)
abbrev C_sweep (P : Program) (w : World) (K : PySem.W.Frag) (mg : Str → Option Value) (base : Heap) (C : Ec → Addr) := Callee P w K mg base 9 "sweep" (spM K C 3 (fun b : InSweep => [.ro (fz (bkD (b.f, b.ws))), .mu (owA (b.low.map plD)), .mu (owA b.pap)]) (fun b => okSet b.f b.ws b.low ∧ (∀ k, (plAt b.low k).1 < b.f.most) ∧ b.pap.length ≤ sumIx b.f b.low) rSweep)
theorem ok_sweep (Bt : Blt mg) (G_wide_of : C_wide_of P w K mg base C) (G_foot_high : C_foot_high P w K mg base C) (G_lift : C_lift P w K mg base C) (G_lift_back : C_lift_back P w K mg base C) (D : Df K mg "sweep" s_sweep) : C_sweep P w K mg base C := by
  refine callee_ofM D sc_sweep (fun _ _ _ _ _ _ us hl => match us, hl with | [_, _, _], _ => rfl) (fun f cdv A outer s H E c b hi ad => ?_)
  obtain ⟨fm, ws, low, pap⟩ := b
  obtain ⟨hset, hpg, hpp⟩ := hi
  have hset : okSet fm ws low := hset
  have hpg : ∀ k, (plAt low k).1 < fm.most := hpg
  have hpp : pap.length ≤ sumIx fm low := hpp
  have hlow := hset.row
  have h100 := hset.n
  show Sxs _ _ _ [some (fz (bkD (fm, ws))), some (ow (some (ad 1)) (low.map plD)), some (ow (some (ad 2)) pap), none, none, none, none, none, none, none, none] (bodyM ad [1, 2] (rSweep ⟨fm, ws, low, pap⟩))
  refine sxs_set 3 (ev_ixT (ev_var 0 rfl) ev_int rfl) ?_ c.nd
  refine sxs_set 4 ev_int ?_ c.nd
  refine sxs_set 5 ev_int ?_ c.nd
  refine sxs_set 6 ev_int ?_ c.nd
  refine sxs_set 7 ev_int ?_ c.nd
  refine sxs_for c (fun i ρ => ∃ now pap' n ra pa wd hg, ρ = envW fm ws ad now pap' ra pa wd hg none none none ∧ Way fm ws low pap now pap' n ∧ (∀ k, (plAt now k).1 < fm.most) ∧ ra ≤ i ∧ pa ≤ i ∧ (n = 0 → GoodS fm ws now i ra pa wd hg))
    (iv_range1 Bt ((ev_len Bt (Bv.bw (bv_var 1 rfl))).to (e := .int ((low.length : Nat) : Int)) (by rw [List.length_map])) (by omega) (by omega)) (tg_name 8 c.nd) ⟨low, pap, 0, 0, 0, 0, 0, rfl, Way.refl hset, hpg, Nat.le_refl _, Nat.le_refl _, fun _ => good_0⟩ (fun i d ρ hd hP => ⟨⟨(fun h => nomatch h), rfl⟩, ?_⟩) (fun ρ hP => ?_)
  · obtain ⟨now, pap', n, ra, pa, wd, hg, rfl, hway, hmost, hra, hpa, hgood⟩ := hP
    obtain ⟨hi, rfl⟩ := nums_of hd
    have hi : i < low.length := by omega
    have hl0 := hway.len
    have hin : i < now.length := by omega
    have hbk := hway.set.bk
    have hw := wdAt_get (ws := ws) (k := i) (by have := hbk.len; omega)
    have hwd := hbk.wrd _ (List.mem_of_getElem? hw)
    have hpap := hway.pap hlow hpp
    generalize hwi : ownW fm now ws i = wi
    generalize hft : ftW fm now ws i = ft
    show Sxs _ _ _ (envW fm ws ad now pap' ra pa wd hg (some (fz (.int i))) none none) _
    refine sxs_set 9 (ev_borrow (ρ' := [some (fz (bkD (fm, ws))), some (fz (.list (now.map plD))), none, some (fz (frD fm)), none, none, none, none, some (fz (.int i)), none, none]) (.keep brw_fz (.keep brw_ow (.skip (.keep brw_fz (.skip (.skip (.skip (.skip (.keep brw_fz (.skip (.skip .nil)))))))))))
      ((ev_call c G_wide_of (fm, (wdAt ws i).own, now) ⟨hbk.frm, hbk.pls, hwd.own⟩ (fun _ h => h) (as_cons (Ev.s (ev_var 3 rfl)) (as_cons (Ev.s (ev_ixT (ev_ixL (Bv.bw (Ev.bv (ev_ixT (ev_var 0 rfl) ev_int rfl))) (ev_var 8 rfl) (atI_map wdD hw)) ev_int rfl)) (as_cons (Ev.s (ev_var 1 rfl)) as_nil)))).to (e := .int (wi : Int)) (by rw [← hwi]; rfl))) ?_ c.nd
    refine sxs_set 10 (ev_borrow (ρ' := [some (fz (bkD (fm, ws))), some (fz (.list (now.map plD))), none, some (fz (frD fm)), none, none, none, none, some (fz (.int i)), none, none]) (.keep brw_fz (.keep brw_ow (.skip (.keep brw_fz (.skip (.skip (.skip (.skip (.keep brw_fz (.skip (.skip .nil)))))))))))
      ((ev_call c G_foot_high (fm, (wdAt ws i).foot, now) ⟨hbk.frm, hbk.pls, hwd.foot.1, hwd.foot.2⟩ (fun _ h => h) (as_cons (Ev.s (ev_var 3 rfl)) (as_cons (Ev.s (ev_ixT (ev_ixL (Bv.bw (Ev.bv (ev_ixT (ev_var 0 rfl) ev_int rfl))) (ev_var 8 rfl) (atI_map wdD hw)) ev_int rfl)) (as_cons (Ev.s (ev_var 1 rfl)) as_nil)))).to (e := .int (ft : Int)) (by rw [← hft]; rfl))) ?_ c.nd
    -- never
    refine sxs_exprM (evm_call (hix := by simp) [(1, some (ad 1)), (2, some (ad 2))] c G_lift ⟨.never, ⟨fm, ws, now, i, (i : Int)⟩, pap'⟩ ⟨⟨hbk, hin⟩, hpap.2⟩ (am_ro (Ev.s (ev_var 0 rfl)) (am_mu 1 (some (ad 1)) rfl (am_mu 2 (some (ad 2)) rfl (am_ro (Ev.s (ev_str.to rfl)) (am_ro (Ev.s (ev_var 8 rfl)) (am_ro (Ev.s (ev_var 8 rfl)) am_nil))))))) (fun S ρ' hR => ?_) (fun cl ρ' hR => ?_)
    rotate_left
    · obtain ⟨outs, hr, _⟩ := hR
      rcases rLift_cases hr with ⟨_, e, _⟩ | ⟨_, _, e, _⟩ <;> cases e
    obtain ⟨outs, hr, rfl⟩ := hR
    obtain ⟨now1, pap1, n1, rfl, w1, k1, b1, z1, _⟩ := lift_out hway hin (bound := fm.most) (by omega) (fun p hp => never_place hp) hr
    have m1 : ∀ k, k ≠ i → (plAt now1 k).1 < fm.most := fun k hk => by rw [k1 k hk]; exact hmost k
    have b1 : (plAt now1 i).1 ≤ fm.most := by rcases b1 with e | e; rw [e]; exact Nat.le_of_lt (hmost i); exact e
    clear k1
    have hl1 := w1.len
    have hp1 := w1.pap hlow hpp
    -- behind
    show Sxs _ _ _ (envW fm ws ad now1 pap1 ra pa wd hg (some (fz (.int i))) (some (fz (.int wi))) (some (fz (.int ft)))) _
    refine sxs_exprM (evm_call (hix := by simp) [(1, some (ad 1)), (2, some (ad 2))] c G_lift ⟨.behind, ⟨fm, ws, now1, i, (i : Int) - 1⟩, pap1⟩ ⟨⟨w1.set.bk, by show i < now1.length; omega⟩, hp1.2⟩ (am_ro (Ev.s (ev_var 0 rfl)) (am_mu 1 (some (ad 1)) rfl (am_mu 2 (some (ad 2)) rfl (am_ro (Ev.s (ev_str.to rfl)) (am_ro (Ev.s (ev_var 8 rfl)) (am_ro (Ev.s (ev_sub (ev_var 8 rfl) ev_int)) am_nil))))))) (fun S ρ' hR => ?_) (fun cl ρ' hR => ?_)
    rotate_left
    · obtain ⟨outs, hr, _⟩ := hR
      rcases rLift_cases hr with ⟨_, e, _⟩ | ⟨_, _, e, _⟩ <;> cases e
    obtain ⟨outs, hr, rfl⟩ := hR
    obtain ⟨now2, pap2, n2, rfl, w2, k2, b2, z2, _⟩ := lift_out w1 (by omega) (bound := fm.most + 2) (by omega) (fun p hp => by rw [behind_place hp]; exact rBehind_page b1 fun h0 => m1 _ (by omega)) hr
    have m2 : ∀ k, k ≠ i → (plAt now2 k).1 < fm.most := fun k hk => by rw [k2 k hk]; exact m1 k hk
    have b2 : (plAt now2 i).1 ≤ fm.most + 2 := by rcases b2 with e | e; rw [e]; omega; exact e
    clear k2
    have hl2 := w2.len
    have hp2 := w2.pap hlow hpp
    have hpi2 := plAt_get (ps := now2) (k := i) (by omega)
    show Sxs _ _ _ (envW fm ws ad now2 pap2 ra pa wd hg (some (fz (.int i))) (some (fz (.int wi))) (some (fz (.int ft)))) _
    -- the row so far
    refine sxs_ifJ (envW fm ws ad now2 pap2 (raN now2 i ra) pa (wdN now2 i wd wi) hg (some (fz (.int i))) (some (fz (.int wi))) (some (fz (.int ft)))) (t := decide (0 < i ∧ plAt now2 i = plAt now2 (i - 1)))
      (tst_and2 (q := PyData.eqv (plD (plAt now2 i)) (plD (plAt now2 (i - 1)))) (tst_cm (cm_gt (ev_var 8 rfl) ev_int)) (fun h => tst_cm (cm_eqD c (Ev.rv (ev_ixL (Bv.bw (bv_var 1 rfl)) (ev_var 8 rfl) (atI_map plD hpi2))) (Ev.rv (ev_ixL (Bv.bw (bv_var 1 rfl)) ((ev_sub (ev_var 8 rfl) ev_int).to (e := .int ((i - 1 : Nat) : Int)) (by have : (0 : Int) < i := of_decide_eq_true h; congr 1; omega)) (atI_map plD (plAt_get (ps := now2) (k := i - 1) (by omega))))) (cl_shaped (pl_cl _)) (cl_shaped (pl_cl _)))) (by rw [pl_ne, Bool.decide_and]; congr 1; rw [decide_eq_decide]; omega)) (fun h => ?_) (fun h => ?_) ?_
    · have h := of_decide_eq_true h
      refine sxs_set 6 ((ev_add (ev_add (ev_var 6 rfl) ev_int) (ev_var 9 rfl)).to (e := .int ((wdN now2 i wd wi : Nat) : Int)) (by unfold wdN; rw [if_pos h]; rfl)) ?_ c.nd
      refine sxs_nil ?_
      unfold raN
      rw [if_pos h]
      exact Wk.refl _
    · have h := of_decide_eq_false h
      refine sxs_set 4 ((ev_var 8 rfl).to (e := .int ((raN now2 i ra : Nat) : Int)) (by unfold raN; rw [if_neg h])) ?_ c.nd
      refine sxs_set 6 ((ev_var 9 rfl).to (e := .int ((wdN now2 i wd wi : Nat) : Int)) (by unfold wdN; rw [if_neg h])) ?_ c.nd
      exact sxs_nil (Wk.refl _)
    have hra2 : raN now2 i ra ≤ i := by unfold raN; split; exact hra; exact Nat.le_refl _
    generalize hrn : raN now2 i ra = ra2 at hra2
    generalize hwn : wdN now2 i wd wi = wd2
    -- wide
    refine sxs_ifMJ (fun ρ'' => ∃ now3 pap3 n3 ra3 wd3, ρ'' = envW fm ws ad now3 pap3 ra3 pa wd3 hg (some (fz (.int i))) (some (fz (.int wi))) (some (fz (.int ft))) ∧ Way fm ws low pap now3 pap3 n3 ∧ (∀ k, k ≠ i → (plAt now3 k).1 < fm.most) ∧ (plAt now3 i).1 ≤ fm.most + 2 ∧ ra3 ≤ i ∧ (n3 = 0 → n2 = 0 ∧ now3 = now2 ∧ ra3 = ra2 ∧ wd3 = wd2 ∧ (fm.wide < wd2 → reachP .wide fm ws now2 i ra2 = none)))
      (tstM_and2 (p := decide (fm.wide < wd2)) ((tst_cm (cm_gt (i := (wd2 : Int)) (j := (fm.wide : Int)) (ev_var 6 rfl) (ev_ixT (ev_var 3 rfl) ev_int rfl))).to (by rw [decide_eq_decide]; omega)) (fun _ => tstM_val (evm_call (hix := by simp) [(1, some (ad 1)), (2, some (ad 2))] c G_lift ⟨.wide, ⟨fm, ws, now2, i, (ra2 : Int)⟩, pap2⟩ ⟨⟨w2.set.bk, by show i < now2.length; omega⟩, hp2.2⟩ (am_ro (Ev.s (ev_var 0 rfl)) (am_mu 1 (some (ad 1)) rfl (am_mu 2 (some (ad 2)) rfl (am_ro (Ev.s (ev_str.to rfl)) (am_ro (Ev.s (ev_var 8 rfl)) (am_ro (Ev.s (ev_var 4 rfl)) am_nil))))))) (fun S ρ' hR => by
        obtain ⟨outs, hr, _⟩ := hR
        rcases rLift_cases hr with ⟨_, e, _⟩ | ⟨_, _, e, _⟩
        · exact ⟨false, Except.ok.inj e⟩
        · exact ⟨true, Except.ok.inj e⟩))) (fun ρ' hR => ?_) (fun ρ' hR => ?_) (fun cl ρ' hR => ?_) (fun ρ3 hJ => ?_)
    · rcases hR with ⟨_, e, _⟩ | ⟨_, outs, hr, rfl⟩
      · exact absurd (Except.ok.inj e) (by decide)
      · obtain ⟨now3, pap3, n3, rfl, w3, k3, b3, z3, o3⟩ := lift_out w2 (by omega) (bound := fm.most + 2) (by omega) (fun p hp => by have := wide_place hp; have := m2 ra2 (by omega); omega) hr
        rcases o3 with ⟨e, _⟩ | ⟨_, e3⟩
        · exact absurd (fzb_inj K (Except.ok.inj e)) (by decide)
        show Sxs _ _ _ (envW fm ws ad now3 pap3 ra2 pa wd2 hg (some (fz (.int i))) (some (fz (.int wi))) (some (fz (.int ft)))) _
        refine sxs_set 4 (ev_var 8 rfl) ?_ c.nd
        refine sxs_set 6 (ev_var 9 rfl) ?_ c.nd
        exact sxs_nil ⟨_, Wk.refl _, now3, pap3, n3, i, wi, rfl, w3, fun k hk => by rw [k3 k hk]; exact m2 k hk, by rcases b3 with e | e; rw [e]; exact b2; exact e, Nat.le_refl _, fun z => by omega⟩
    · rcases hR with ⟨hp, _, rfl⟩ | ⟨_, outs, hr, rfl⟩
      · exact sxs_nil ⟨_, Wk.refl _, now2, pap2, n2, ra2, wd2, rfl, w2, m2, b2, hra2, fun z => ⟨z, rfl, rfl, rfl, fun h => absurd h (of_decide_eq_false hp)⟩⟩
      · obtain ⟨now3, pap3, n3, rfl, w3, k3, b3, z3, o3⟩ := lift_out w2 (by omega) (bound := fm.most + 2) (by omega) (fun p hp => by have := wide_place hp; have := m2 ra2 (by omega); omega) hr
        rcases o3 with ⟨_, hn, rfl, rfl, rfl⟩ | ⟨e, _⟩
        · exact sxs_nil ⟨_, Wk.refl _, now3, pap3, n3, ra2, wd2, rfl, w3, m2, b2, hra2, fun z => ⟨z, rfl, rfl, rfl, fun _ => hn⟩⟩
        · exact absurd (fzb_inj K (Except.ok.inj e)) (by decide)
    · rcases hR with ⟨_, e, _⟩ | ⟨_, outs, hr, _⟩
      · cases e
      · rcases rLift_cases hr with ⟨_, e, _⟩ | ⟨_, _, e, _⟩ <;> cases e
    obtain ⟨now3, pap3, n3, ra3, wd3, rfl, w3, m3, b3, hra3, z3⟩ := hJ
    have hl3 := w3.len
    have hp3 := w3.pap hlow hpp
    have hpi3 := plAt_get (ps := now3) (k := i) (by omega)
    -- the page so far
    refine sxs_ifJ (envW fm ws ad now3 pap3 ra3 (paN now3 i pa) wd3 (hgN now3 i hg ft) (some (fz (.int i))) (some (fz (.int wi))) (some (fz (.int ft)))) (t := decide (0 < i ∧ (plAt now3 i).1 = (plAt now3 (i - 1)).1))
      (tst_and2 (q := decide ((plAt now3 i).1 = (plAt now3 (i - 1)).1)) (tst_cm (cm_gt (ev_var 8 rfl) ev_int)) (fun h => (tst_cm (cm_eq (i := ((plAt now3 i).1 : Int)) (j := ((plAt now3 (i - 1)).1 : Int)) (ev_ixT (ev_ixL (Bv.bw (bv_var 1 rfl)) (ev_var 8 rfl) (atI_map plD hpi3)) ev_int rfl) (ev_ixT (ev_ixL (Bv.bw (bv_var 1 rfl)) ((ev_sub (ev_var 8 rfl) ev_int).to (e := .int ((i - 1 : Nat) : Int)) (by have : (0 : Int) < i := of_decide_eq_true h; congr 1; omega)) (atI_map plD (plAt_get (ps := now3) (k := i - 1) (by omega)))) ev_int rfl))).to (by rw [decide_eq_decide]; omega)) (by rw [Bool.decide_and]; congr 1; rw [decide_eq_decide]; omega)) (fun h => ?_) (fun h => ?_) ?_
    · have h := of_decide_eq_true h
      refine sxs_set 7 ((ev_add (ev_var 7 rfl) (ev_var 10 rfl)).to (e := .int ((hgN now3 i hg ft : Nat) : Int)) (by unfold hgN; rw [if_pos h]; rfl)) ?_ c.nd
      refine sxs_nil ?_
      unfold paN
      rw [if_pos h]
      exact Wk.refl _
    · have h := of_decide_eq_false h
      refine sxs_set 5 ((ev_var 8 rfl).to (e := .int ((paN now3 i pa : Nat) : Int)) (by unfold paN; rw [if_neg h])) ?_ c.nd
      refine sxs_set 7 ((ev_var 10 rfl).to (e := .int ((hgN now3 i hg ft : Nat) : Int)) (by unfold hgN; rw [if_neg h])) ?_ c.nd
      exact sxs_nil (Wk.refl _)
    have hpa3 : paN now3 i pa ≤ i := by unfold paN; split; exact hpa; exact Nat.le_refl _
    generalize hpn : paN now3 i pa = pa3 at hpa3
    generalize hhn : hgN now3 i hg ft = hg3
    -- high
    refine sxs_ifMJ (fun ρ'' => ∃ now4 pap4 n4 ra4 pa4 wd4 hg4, ρ'' = envW fm ws ad now4 pap4 ra4 pa4 wd4 hg4 (some (fz (.int i))) (some (fz (.int wi))) (some (fz (.int ft))) ∧ Way fm ws low pap now4 pap4 n4 ∧ (∀ k, k ≠ i → (plAt now4 k).1 < fm.most) ∧ ra4 ≤ i ∧ pa4 ≤ i ∧ (n4 = 0 → n3 = 0 ∧ now4 = now3 ∧ ra4 = ra3 ∧ wd4 = wd3 ∧ pa4 = pa3 ∧ hg4 = hg3 ∧ (fm.high < (plAt now3 i).2 + 1 + hg3 → reachP .high fm ws now3 i pa3 = none)))
      (tstM_and2 (p := decide (fm.high < (plAt now3 i).2 + 1 + hg3)) ((tst_cm (cm_gt (i := ((plAt now3 i).2 : Int) + 1 + hg3) (j := (fm.high : Int)) (ev_add (ev_add (ev_ixT (ev_ixL (Bv.bw (bv_var 1 rfl)) (ev_var 8 rfl) (atI_map plD hpi3)) ev_int rfl) ev_int) (ev_var 7 rfl)) (ev_ixT (ev_var 3 rfl) ev_int rfl))).to (by rw [decide_eq_decide]; omega)) (fun _ => tstM_val (evm_call (hix := by simp) [(1, some (ad 1)), (2, some (ad 2))] c G_lift ⟨.high, ⟨fm, ws, now3, i, (pa3 : Int)⟩, pap3⟩ ⟨⟨w3.set.bk, by show i < now3.length; omega⟩, hp3.2⟩ (am_ro (Ev.s (ev_var 0 rfl)) (am_mu 1 (some (ad 1)) rfl (am_mu 2 (some (ad 2)) rfl (am_ro (Ev.s (ev_str.to rfl)) (am_ro (Ev.s (ev_var 8 rfl)) (am_ro (Ev.s (ev_var 5 rfl)) am_nil))))))) (fun S ρ' hR => by
        obtain ⟨outs, hr, _⟩ := hR
        rcases rLift_cases hr with ⟨_, e, _⟩ | ⟨_, _, e, _⟩
        · exact ⟨false, Except.ok.inj e⟩
        · exact ⟨true, Except.ok.inj e⟩))) (fun ρ' hR => ?_) (fun ρ' hR => ?_) (fun cl ρ' hR => ?_) (fun ρ3 hJ => ?_)
    · rcases hR with ⟨_, e, _⟩ | ⟨_, outs, hr, rfl⟩
      · exact absurd (Except.ok.inj e) (by decide)
      · obtain ⟨now4, pap4, n4, rfl, w4, k4, b4, z4, o4⟩ := lift_out w3 (by omega) (bound := fm.most + 3) (by omega) (fun p hp => by rw [high_place hp]; omega) hr
        rcases o4 with ⟨e, _⟩ | ⟨_, e4⟩
        · exact absurd (fzb_inj K (Except.ok.inj e)) (by decide)
        show Sxs _ _ _ (envW fm ws ad now4 pap4 ra3 pa3 wd3 hg3 (some (fz (.int i))) (some (fz (.int wi))) (some (fz (.int ft)))) _
        refine sxs_set 4 (ev_var 8 rfl) ?_ c.nd
        refine sxs_set 5 (ev_var 8 rfl) ?_ c.nd
        refine sxs_set 6 (ev_var 9 rfl) ?_ c.nd
        refine sxs_set 7 (ev_var 10 rfl) ?_ c.nd
        exact sxs_nil ⟨_, Wk.refl _, now4, pap4, n4, i, i, wi, ft, rfl, w4, fun k hk => by rw [k4 k hk]; exact m3 k hk, Nat.le_refl _, Nat.le_refl _, fun z => by omega⟩
    · rcases hR with ⟨hp, _, rfl⟩ | ⟨_, outs, hr, rfl⟩
      · exact sxs_nil ⟨_, Wk.refl _, now3, pap3, n3, ra3, pa3, wd3, hg3, rfl, w3, m3, hra3, hpa3, fun z => ⟨z, rfl, rfl, rfl, rfl, rfl, fun h => absurd h (of_decide_eq_false hp)⟩⟩
      · obtain ⟨now4, pap4, n4, rfl, w4, k4, b4, z4, o4⟩ := lift_out w3 (by omega) (bound := fm.most + 3) (by omega) (fun p hp => by rw [high_place hp]; omega) hr
        rcases o4 with ⟨_, hn, rfl, rfl, rfl⟩ | ⟨e, _⟩
        · exact sxs_nil ⟨_, Wk.refl _, now4, pap4, n4, ra3, pa3, wd3, hg3, rfl, w4, m3, hra3, hpa3, fun z => ⟨z, rfl, rfl, rfl, rfl, rfl, fun _ => hn⟩⟩
        · exact absurd (fzb_inj K (Except.ok.inj e)) (by decide)
    · rcases hR with ⟨_, e, _⟩ | ⟨_, outs, hr, _⟩
      · cases e
      · rcases rLift_cases hr with ⟨_, e, _⟩ | ⟨_, _, e, _⟩ <;> cases e
    obtain ⟨now4, pap4, n4, ra4, pa4, wd4, hg4, rfl, w4, m4, hra4, hpa4, z4⟩ := hJ
    have hl4 := w4.len
    have hp4 := w4.pap hlow hpp
    have hpi4 := plAt_get (ps := now4) (k := i) (by omega)
    refine sxs_if (tst_cm (cm_ge (i := ((plAt now4 i).1 : Int)) (j := (fm.most : Int)) (ev_ixT (ev_ixL (Bv.bw (bv_var 1 rfl)) (ev_var 8 rfl) (atI_map plD hpi4)) ev_int rfl) (ev_ixT (ev_var 3 rfl) ev_int rfl))) (fun h => ?_) (fun h => ?_)
    · have h : (fm.most : Int) ≤ (plAt now4 i).1 := of_decide_eq_true h
      refine sxs_break ?_
      refine sxs_nil ⟨[owA (now4.map plD), owA pap4], ⟨rfl, now4, pap4, n4, rfl, w4, fun _ hk => ?_⟩, rfl, rfl, trivial⟩
      have : (plAt now4 i).1 < fm.most := hk i
      omega
    · have h : ¬ (fm.most : Int) ≤ (plAt now4 i).1 := of_decide_eq_false h
      have hpm : (plAt now4 i).1 < fm.most := by omega
      refine sxs_nil ?_
      refine sxs_exprM (evm_call (hix := by simp) [(1, some (ad 1)), (2, some (ad 2))] c G_lift_back ⟨fm, ws, now4, pap4, i⟩ ⟨w4.set, by show i < now4.length; omega, hpm, hp4.1⟩ (am_ro (Ev.s (ev_var 0 rfl)) (am_mu 1 (some (ad 1)) rfl (am_mu 2 (some (ad 2)) rfl (am_ro (Ev.s (ev_var 8 rfl)) am_nil))))) (fun S ρ' hR => ?_) (fun cl ρ' hR => ?_)
      rotate_left
      · obtain ⟨outs, ⟨e, _⟩, _⟩ := hR
        cases e
      obtain ⟨outs, ⟨_, now5, pap5, m, rfl, w5, hbd, hkept⟩, rfl⟩ := hR
      have w5 : Way fm ws now4 pap4 now5 pap5 m := w5
      refine sxs_nil ⟨envW fm ws ad now5 pap5 ra4 pa4 wd4 hg4 none none none, ?_, now5, pap5, n4 + m, ra4, pa4, wd4, hg4, rfl, w4.trans w5, fun k => ?_, by omega, by omega, fun hz => ?_⟩
      · exact Wk.of (wkl_some rfl (wkl_some rfl (wkl_some rfl (wkl_some rfl (wkl_some rfl (wkl_some rfl (wkl_some rfl (wkl_some rfl (wkl_none (wkl_none (wkl_none wkl_nil)))))))))))
      · rcases hbd k with e | e
        · exact e
        · rw [e]
          show (plAt now4 k).1 < fm.most
          by_cases hk : k = i
          · rw [hk]; exact hpm
          · exact m4 k hk
      · have hm0 : m = 0 := by omega
        have hn4 : n4 = 0 := by omega
        subst hm0
        have e5 := w5.zero
        subst e5
        obtain ⟨hn3, e4, e4a, e4b, e4c, e4d, f4⟩ := z4 hn4
        obtain ⟨hn2, e3, e3a, e3b, f3⟩ := z3 hn3
        obtain ⟨hn1, e2, f2⟩ := z2 hn2
        obtain ⟨hn, e1, f1⟩ := z1 hn1
        subst e4; subst e3; subst e2; subst e1
        have := good_step w4.set.row (hgood hn) f1 f2 (by rw [hwi, hwn, hrn]; exact f3) (by rw [hft, hhn, hpn]; exact f4) hpm (hkept rfl)
        rw [hwi, hft, hwn, hrn, hhn, hpn] at this
        rw [e4a, e4b, e4c, e4d, e3a, e3b]
        exact this
  · obtain ⟨now, pap', n, ra, pa, wd, hg, rfl, hway, hmost, hra, hpa, hgood⟩ := hP
    refine sxs_nil ⟨[owA (now.map plD), owA pap'], ⟨rfl, now, pap', n, rfl, hway, fun hn _ k hk => ?_⟩, rfl, rfl, trivial⟩
    refine (hgood hn).tr k ?_
    rw [nums_length]
    have := hway.len
    have hk : k < now.length := hk
    omega
end
end Tl

/-! The pure-value layer: defs with defaults; what comes of a call, by a relation. -/
namespace PV
open PySem PySem.Spec PyProof.Rows L2
/-- a def of the module, called with defaults dv behind what is written -/
def CalleeD (P : Program) (w : World) (K : PySem.W.Frag) (mg : Str → Option Value) (base : Heap) (k : Nat) (x : Str) (dv : List V) (sp : Sp) : Prop :=
  ∃ f fd ps ds, FnOk P w K mg base (L2.CX P w) k f fd ps sp ∧ mg x = some (.ref f) ∧ PySem.W.keepIn K (.ref f) = true ∧ Vals dv ds ∧ Binds K fd ps ds
def DfD (K : PySem.W.Frag) (mg : Str → Option Value) (x : Str) (st : Stmt) (dvs : List V) : Prop := ∃ f fd, FunD K x x (defArgs st) (defBody st) (defScope st) dvs [] f fd ∧ mg x = some (.ref f)
section
variable {K : PySem.W.Frag} {mg : Str → Option Value} {h : Heap} {fa : List He.Fa} {fn : List He.DefD}
theorem df_ofD (X : K.In h) (G : h.Ns mainGlobals mg) (c : He.SaysD fa fn K) (i j : Nat) {x : Str} {st : Stmt} {dfl : List He.Dv} (h1 : fn[i]? = some (ddD x st dfl) := by rfl) (h2 : fa[j]? = some (.glo x) := by rfl) : DfD K mg x st (dfl.map (He.Dv.v K)) := by
  obtain ⟨fd, F⟩ := c.def_ i h1
  exact ⟨_, fd, F, He.glo_ok X G (c.fact j h2)⟩
end
section
variable {P : Program} {w : World} {K : PySem.W.Frag} {mg : Str → Option Value} {base : Heap} {C : Ec → Addr} {k : Nat} {x : Str} {st : Stmt} {N ps : List Str} {ι : Type} {ins : ι → List Slot} {pre : ι → Prop} {r : ι → Except Ec Slot → Prop} {dvs : List V} {f : Addr} {fd : FuncData}
theorem fnok_ofD (F : FunD K x x (defArgs st) (defBody st) (defScope st) dvs [] f fd) (S : FnScope N ps (defScope st))
    (body : ∀ (f : Addr) (cdv : Value) (A : Around) (outer : List PySem.Env) (s : Shared) (H : Hp) (E : XK), Ctx (cxD P w K mg base N x st f cdv A outer s H E) C (fun c σ H => E (.ref (C c)) none H) k → ∀ i, pre i →
      Sxs (cxD P w K mg base N x st f cdv A outer s H E) (fun c σ H => E (.ref (C c)) none H) (defBody st) ((ins i).map some ++ List.replicate (N.length - (ins i).length) none) (bodyS (r i))) : FnOk P w K mg base (L2.CX P w) (k + 1) f fd ps (spP K C ps.length ins pre r) := by
  refine F.ok S (fun vs H Q E ⟨i, F, _, h, _⟩ => h) (fun cdv A outer s H vs Q E hr h => ?_)
  obtain ⟨i, F0, s0, hl, hv, hp, q1, q2⟩ := h
  have tk : Takes (cxD P w K mg base N x st f cdv A outer s H E) (fun cls d σ H => ∃ c, cls = .ref (C c) ∧ d = none ∧ E (.ref (C c)) none H) :=
    Takes.imp (takes_of rfl rfl rfl rfl) fun cls d σ H ⟨c, e1, e2, z⟩ => by subst e1 e2; exact z
  have cc : Ctx (cxD P w K mg base N x st f cdv A outer s H E) C (fun c σ H => E (.ref (C c)) none H) k := ⟨rfl, hr, S.nd, passes_of rfl, tk⟩
  have b := body f cdv A outer s H E cc i hp
  have el : N.length - (ins i).length = N.length - vs.length := by rw [Paired.length hv]
  have ok : EOk K ((ins i).map some ++ List.replicate (N.length - (ins i).length) none) F0 (start N vs) H (fun _ => []) := by
    rw [el]; exact EOk_args s0 hv
  have gr : ∀ {F' H' : Hp} {ρ : Env} {σ : St} {M : Nat → Mini}, PInv K H F0 ρ F' σ H' M → Ext F0 H F' H' := fun y => ⟨y.f0, y.base, y.ok.sub, y.nb⟩
  refine ⟨_, pss_Sxs _ _ _, _, _, F0, _, H, F0, b, ⟨ok, .refl _, .refl _, (fun a o h1 h2 => by rw [h1] at h2; cases h2), fun _ _ _ z => nomatch z⟩, fun o ho => ?_⟩
  cases o with
  | next ρ => exact fun F' σ H' M y => q1 _ ho .non F' H' [] (gr y) ⟨rfl, .non⟩ fun _ _ z => nomatch z
  | ret S ρ =>
    intro v F' σ H' M y
    obtain ⟨v', e, hv'⟩ := y.ok.at_ 0 S rfl
    have e' : v = v' := by simpa using e
    subst e'
    exact q1 S ho v F' H' (M 0) (gr y) hv' fun a o hm => ⟨(y.ok.own 0 a o hm).1, (y.ok.own 0 a o hm).2, y.mb 0 a o hm⟩
  | brk ρ => exact ho.elim
  | cont ρ => exact ho.elim
  | raise c ρ => exact fun F' σ H' M y => q2 c ho F' H' (gr y)
/-- called with n values, the defaults behind the first j of them fill up -/
theorem callee_ofD (n j : Nat) (D : DfD K mg x st dvs) (hd : dvs ≠ []) (S : FnScope N ps (defScope st)) (hn : n + (dvs.length - j) = ps.length)
    (hb : ∀ (T : Addr) (kV doc pm : Value) (an : Option Addr) (cdv ct : Value) (us its : List Value), us.length = n → its.length = dvs.length →
      ∃ k, bindArgs (PySem.W.fnOf x x (defArgs st) (defBody st) (defScope st) (.ref T) kV doc pm an cdv ct) ⟨us, []⟩ = seqItems? (.ref T) >>= k ∧ k (some its.toArray) = pure (ps.zip (us ++ its.drop j)))
    (body : ∀ (f : Addr) (cdv : Value) (A : Around) (outer : List PySem.Env) (s : Shared) (H : Hp) (E : XK), Ctx (cxD P w K mg base N x st f cdv A outer s H E) C (fun c σ H => E (.ref (C c)) none H) k → ∀ i, pre i →
      Sxs (cxD P w K mg base N x st f cdv A outer s H E) (fun c σ H => E (.ref (C c)) none H) (defBody st) ((ins i).map some ++ List.replicate (N.length - (ins i).length) none) (bodyS (r i))) : CalleeD P w K mg base (k + 1) x (dvs.drop j) (spP K C ps.length ins pre r) := by
  obtain ⟨f, fd, F, hm⟩ := D
  obtain ⟨ds, h1, h2⟩ := F.binds1 (ps := ps) n j hd hn hb
  exact ⟨f, fd, ps, ds, fnok_ofD F S body, hm, F.kp, h1, h2⟩
end
section
variable {X : Cx} {W : Wc} {ρ ρ' : Env} {e a b : Expr} {es : List Expr} {pos p : Pos} {C : Ec → Addr} {k : Nat} {rest : List Stmt} {Φ : Out → Prop}
variable {ι : Type} {n : Nat} {ins : ι → List Slot} {pre : ι → Prop} {r : ι → Except Ec Slot → Prop} {x : Str} {j : Nat}
/-- whatever comes of a call that changes nothing -/
theorem evm_callP (c : Ctx X C W k) (G : Callee X.prog X.w X.K X.mg X.base j x (spP X.K C n ins pre r)) (i : ι) (hp : pre i) (ha : EvAS X W ρ (e :: es) (ins i)) (hj : j ≤ k := by decide) (hn : (ins i).length = n := by rfl)
    (hg : Gl X x := by rfl) (hdb : (x == ("__debug__" : Str)) = false := by decide) (he : starEach (e :: es) X.env = (false, eval e X.env) :: starEach es X.env := by rfl) (hpl : (backTo pos (starEach es X.env)).any (·.1) = false := by rfl) :
    EvM X W ρ (.Call (.Name x p) (e :: es) [] pos) (fun o ρ' => r i o ∧ ρ' = ρ) := fun pins s σ F H M B F0 Q I ok h1 h2 =>
  call_any c G hj i hp ha hn hg hdb he hpl pins s σ F H M Q I ok.ok (fun S hS v F' H' m x hv hm => h1 S ρ ⟨hS, rfl⟩ v F' H' M m (ok.ext x) hv fun a o hmm => by
    obtain ⟨z1, z2, z3⟩ := hm a o hmm
    refine ⟨z1, z2, ok.base.free z3, fun j o' hj => ?_⟩
    have := (ok.ok.own j a o' hj).1
    rw [z3] at this; cases this) fun c' hc F' H' x => h2 c' ρ ⟨hc, rfl⟩ F' H' M (ok.ext x)
/-- the same with defaults -/
theorem evm_callD {dv : List V} {Ss Ds : List Slot} (c : Ctx X C W k) (G : CalleeD X.prog X.w X.K X.mg X.base j x dv (spP X.K C n ins pre r)) (i : ι) (hp : pre i) (ha : EvAS X W ρ (e :: es) Ss) (hd : ∀ F, SlotsR X.K F dv Ds) (hi : ins i = Ss ++ Ds) (hj : j ≤ k := by decide) (hn : (ins i).length = n := by rfl)
    (hg : Gl X x := by rfl) (hdb : (x == ("__debug__" : Str)) = false := by decide) (he : starEach (e :: es) X.env = (false, eval e X.env) :: starEach es X.env := by rfl) (hpl : (backTo pos (starEach es X.env)).any (·.1) = false := by rfl) :
    EvM X W ρ (.Call (.Name x p) (e :: es) [] pos) (fun o ρ' => r i o ∧ ρ' = ρ) := by
  intro pins s σ F H M B F0 Q I ok h1 h2
  obtain ⟨f, fd, ps, ds, hF, hm, hk, hv, hb⟩ := G
  refine (pe_callSD (E := WE (fun cls d σ H => ∃ c, cls = .ref (C c) ∧ d = none ∧ W c σ H)) hF (c.room.mono hj) hg hm hk hb hv (fun σ => passAt c.tk σ) ha.pa hdb he hpl).run pins s σ H Q I ?_
  refine ⟨F, M, ok.ok, fun vs F1 H1 x1 dvs => ?_⟩
  have ok1 := ok.ext x1
  have app : ∀ {vs ws : List V} {Ss Ts : List Slot}, SlotsR X.K F1 vs Ss → SlotsR X.K F1 ws Ts → SlotsR X.K F1 (vs ++ ws) (Ss ++ Ts) := by
    intro vs ws Ss Ts h h'
    induction h with
    | nil => exact h'
    | cons a t ih => exact .cons a ih
  have all := app dvs (hd F1)
  rw [← hi] at all
  refine ⟨i, F1, x1.sub, (Paired.length all).trans hn, all, hp, fun S hS v F' H' m x2 hv hm => ?_, fun c hc F' H' x2 => ⟨c, rfl, rfl, h2 c ρ ⟨hc, rfl⟩ F' H' M (ok.ext (x1.trans x2))⟩⟩
  refine h1 S ρ ⟨hS, rfl⟩ v F' H' M m (ok.ext (x1.trans x2)) hv fun a o hmm => ?_
  obtain ⟨z1, z2, z3⟩ := hm a o hmm
  refine ⟨z1, z2, ok1.base.free z3, fun j o' hj => ?_⟩
  have := (ok1.ok.own j a o' hj).1
  rw [z3] at this; cases this
/-- an item of a tuple that comes of it -/
theorem evm_ixT {R : Except Ec Slot → Env → Prop} {i : Int} (R2 : PyData → Env → Prop) (ha : EvM X W ρ a R) (hR : ∀ S ρ', R (.ok S) ρ' → ∃ ds d, S = fz (.tuple ds) ∧ atI ds i = some d ∧ R2 d ρ') {j' : Nat} {pos' : Pos} (hs : PlainIx (.Constant (.int i) j' pos') := by exact fun _ _ => rfl) :
    EvM X W ρ (.Subscript a (.Constant (.int i) j' pos') pos) (fun o ρ' => match o with
      | .ok S => ∃ d, R2 d ρ' ∧ S = fz d
      | .error c => R (.error c) ρ') := by
  intro pins s σ F H M B F0 Q I ok h1 h2
  refine (pe_ix ix_tup ha.pe pe_int hs).run pins s σ H Q I ⟨F, M, B, F0, ok, fun S ρ' hS v F1 H1 M1 m x1 hv hm => ?_, fun c ρ' hc F' H' M' x => h2 c ρ' hc F' H' M' x⟩
  obtain ⟨ds, d, rfl, e, hd⟩ := hR S ρ' hS
  obtain ⟨_, dx⟩ := hv
  obtain ⟨p, vs, rfl, g1, g2⟩ := dq_tup dx
  obtain ⟨u, g3, g4⟩ := atI_dq g2 e
  exact ⟨p, vs, i, u, rfl, rfl, same_seqT x1.ok.sub g1, g3, h1 (fz d) ρ' ⟨d, hd, rfl⟩ u F1 H1 M1 [] x1 ⟨rfl, g4⟩ fun _ _ z => nomatch z⟩
end
end PV

/-! A book settled. -/
namespace Tl
open PySem PySem.Spec PyProof.Rows L2 PV
def low0 (n : Nat) : List Plc := List.replicate n (0, 0)
theorem low0_at (n k : Nat) : plAt (low0 n) k = (0, 0) := by
  unfold plAt low0
  rw [List.getD_eq_getElem?_getD, List.getElem?_replicate]
  split <;> rfl
theorem low0_le (n : Nat) (T : List Plc) : leL (low0 n) T := fun k => by
  rw [low0_at]
  unfold leP
  dsimp only
  omega
def beyond (f : Frm) (now : List Plc) : Bool := now.any fun p => decide (f.most ≤ p.1)
theorem not_beyond {f : Frm} {now : List Plc} (h0 : 0 < f.most) : beyond f now = false ↔ ∀ k, (plAt now k).1 < f.most := by
  unfold beyond
  rw [List.any_eq_false]
  constructor
  · intro h k
    rcases plAt_mem (ps := now) (k := k) with z | z
    · have := h _ z
      have : ¬ f.most ≤ (plAt now k).1 := by simpa using this
      omega
    · rw [z]; exact h0
  · intro h p hp
    obtain ⟨k, hk⟩ := List.mem_iff_getElem?.mp hp
    have e := Option.some.inj ((plAt_get (List.getElem?_eq_some_iff.mp hk).1).symm.trans hk)
    have := h k
    rw [e] at this
    simpa using this
def optD : Option (List Plc) → PyData
  | none => .none
  | some L => .list (L.map plD)
def rSettle (b : Frm × List Wrd) : Except Ec Slot → Prop := fun o => ∃ (res : Option (List Plc)) (pap : List PyData), o = .ok (fz (.tuple [optD res, .list pap])) ∧ (∀ L, res = some L → okSet b.1 b.2 L ∧ TrueL b.1 b.2 L ∧ ∀ k, (plAt L k).1 < b.1.most) ∧ (∀ T, okLow b.1 T → T.length = b.2.length → TrueL b.1 b.2 T → (∀ k, (plAt T k).1 < b.1.most) → ∃ L, res = some L ∧ leL L T)
section
variable {P : Program} {w : World} {K : PySem.W.Frag} {mg : Str → Option Value} {base : Heap} {C : Ec → Addr}
abbrev C_first_bounds (P : Program) (w : World) (K : PySem.W.Frag) (mg : Str → Option Value) (base : Heap) (C : Ec → Addr) := Callee P w K mg base 1 "first_bounds" (spP K C 1 (fun i : Frm × List Wrd => [fz (bkD i)]) (fun i => i.2.length ≤ 1000) (fun i => is (.ok (ow none ((low0 i.2.length).map plD)))))
theorem ok_first_bounds (Bt : Blt mg) (D : Df K mg "first_bounds" s_first_bounds) : C_first_bounds P w K mg base C := by
  refine callee_of D sc_first_bounds (fun _ _ _ _ _ _ us hl => match us, hl with | [_], _ => rfl) (fun f cdv A outer s H E c i hi => ?_)
  obtain ⟨fm, ws⟩ := i
  have hi : ws.length ≤ 1000 := hi
  show Sxs _ _ _ [some (fz (bkD (fm, ws))), none] _
  refine sxs_retF (Fr.to (fr_lc (ks := ((low0 ws.length).map plD).map some) [("word", 1)] c (iv_list (ev_ixT (ev_var 0 rfl) ev_int rfl)) (fun s H Cc cl fp => have cb := c.blk s H Cc cl fp; tg_name 1 cb.nd) (szl (by rw [List.length_map]; show ws.length ≤ _; omega)) (by simp [low0]) (fun i d r hd hr => ?_)) (keep_all _)) rfl
  have hlt : i < ws.length := by have := (List.getElem?_eq_some_iff.mp hd).1; simpa using this
  rw [List.getElem?_map, List.getElem?_map] at hr
  have e : (low0 ws.length)[i]? = some (0, 0) := by unfold low0; rw [List.getElem?_replicate, if_pos hlt]
  rw [e] at hr
  obtain rfl := (Option.some.inj hr).symm
  exact ⟨⟨(fun h => nomatch h), rfl⟩, true, rfl, (fun h => nomatch h), fun _ => ⟨_, rfl, fun s H Cc cl fp => ev_tup (eva_cons ev_int (eva_cons ev_int eva_nil))⟩⟩
abbrev C_is_beyond (P : Program) (w : World) (K : PySem.W.Frag) (mg : Str → Option Value) (base : Heap) (C : Ec → Addr) := Callee P w K mg base 1 "is_beyond" (spP K C 2 (fun i : Frm × List Wrd × List Plc => [fz (bkD (i.1, i.2.1)), fz (.list (i.2.2.map plD))]) (fun i => i.2.2.length ≤ 1000) (fun i => is (.ok (fz (.bool (beyond i.1 i.2.2))))))
theorem ok_is_beyond (Bt : Blt mg) (D : Df K mg "is_beyond" s_is_beyond) : C_is_beyond P w K mg base C := by
  refine callee_of D sc_is_beyond (fun _ _ _ _ _ _ us hl => match us, hl with | [_, _], _ => rfl) (fun f cdv A outer s H E c i hi => ?_)
  obtain ⟨fm, ws, now⟩ := i
  have hi : now.length ≤ 1000 := hi
  show Sxs _ _ _ [some (fz (bkD (fm, ws))), some (fz (.list (now.map plD))), none] _
  refine sxs_ret ((ev_any (ns := now.map fun p => decide (fm.most ≤ p.1)) c Bt (Bv.bw (Fr.bv (Fr.to (fr_lc (ks := ((now.map fun p => decide (fm.most ≤ p.1)).map PyData.bool).map some) [("spot", 2)] c (iv_list (ev_var 1 rfl)) (fun s H Cc cl fp => have cb := c.blk s H Cc cl fp; tg_name 2 cb.nd) (szl (by rw [List.length_map]; omega)) (by simp) (fun i d r hd hr => ?_)) (keep_all _))))).to (e := .bool (beyond fm now)) ?_) rfl
  · rw [List.getElem?_map] at hd
    obtain ⟨x, hx, rfl⟩ := Option.map_eq_some_iff.mp hd
    rw [List.getElem?_map, List.getElem?_map, List.getElem?_map, hx] at hr
    obtain rfl := (Option.some.inj hr).symm
    refine ⟨⟨(fun h => nomatch h), rfl⟩, true, rfl, (fun h => nomatch h), fun _ => ⟨_, rfl, fun s H Cc cl fp => ?_⟩⟩
    exact (ev_cm (cm_ge (i := (x.1 : Int)) (j := (fm.most : Int)) (ev_ixT (ev_var 2 rfl) ev_int rfl) (ev_ixT (ev_ixT (ev_var 0 rfl) ev_int rfl) ev_int rfl))).to (by congr 1; rw [decide_eq_decide]; omega)
  · unfold beyond
    rw [List.any_map]
    rfl
abbrev C_settle (P : Program) (w : World) (K : PySem.W.Frag) (mg : Str → Option Value) (base : Heap) (C : Ec → Addr) := CalleeD P w K mg base 10 "settle" [.non] (spP K C 2 (fun i : Frm × List Wrd => [fz (bkD i), fz .none]) (fun i => okSet i.1 i.2 (low0 i.2.length) ∧ 0 < i.1.most) rSettle)
theorem ok_settle (Bt : Blt mg) (G_first_bounds : C_first_bounds P w K mg base C) (G_is_beyond : C_is_beyond P w K mg base C) (G_sweep : C_sweep P w K mg base C) (D : DfD K mg "settle" s_settle [.non]) : C_settle P w K mg base C := by
  refine callee_ofD 1 0 D (by simp) sc_settle rfl (fun T kV doc pm an cdv ct us its h1 h2 => match us, h1, its, h2 with | [_], _, [_], _ => ⟨_, rfl, rfl⟩) (fun f cdv A outer s H E c i hi => ?_)
  obtain ⟨fm, ws⟩ := i
  obtain ⟨hset, h0⟩ := hi
  have hset : okSet fm ws (low0 ws.length) := hset
  have h0 : 0 < fm.most := h0
  have h100 := hset.n
  have hl0 : (low0 ws.length).length = ws.length := by simp [low0]
  show Sxs _ _ _ [some (fz (bkD (fm, ws))), some (fz .none), none, none, none] (bodyS (rSettle (fm, ws)))
  refine sxs_setF 2 (fr_call c G_first_bounds (fm, ws) (by show ws.length ≤ 1000; omega) (fun _ h => h) (as_cons (Ev.s (ev_var 0 rfl)) as_nil)) ?_ c.nd
  refine sxs_if (t := false) (Tst.to (tst_cm (cm_notN (ev_var 1 rfl))) rfl) (fun h => nomatch h) (fun h => ?_)
  refine sxs_nil ?_
  refine sxs_setF 3 (fr_lst eva_nil) ?_ c.nd
  refine sxs_set 4 (ev_neg ev_int) ?_ c.nd
  have hbey : ∀ (now : List Plc) (pap : List PyData) (mn : Int), now.length ≤ 1000 → Tst (cxD P w K mg base ["book", "low", "now", "paper", "many"] "settle" s_settle f cdv A outer s H E) (fun c σ H => E (.ref (C c)) none H) [some (fz (bkD (fm, ws))), some (fz .none), some (ow none (now.map plD)), some (ow none pap), some (fz (.int mn))] (match defBody s_settle with | [_, _, _, _, _, .If t _ _ _, _] => t | _ => .Constant .none 0 ⟨0, 0, 0, 0⟩) (beyond fm now) := fun now pap mn hn =>
    tst_borrow (ρ' := [some (fz (bkD (fm, ws))), none, some (fz (.list (now.map plD))), none, none]) (.keep brw_fz (.skip (.keep brw_ow (.skip (.skip .nil))))) (tst_val (ev_call c G_is_beyond (fm, ws, now) hn (fun _ h => h) (as_cons (Ev.s (ev_var 0 rfl)) (as_cons (Ev.s (ev_var 2 rfl)) as_nil))))
  refine sxs_while c (fun m ρ => ∃ now pap n mn, ρ = [some (fz (bkD (fm, ws))), some (fz .none), some (ow none (now.map plD)), some (ow none pap), some (fz (.int mn))] ∧ Way fm ws (low0 ws.length) [] now pap n ∧ mn ≤ pap.length ∧ m = 2 * (9000000 - sumIx fm now) + (if mn < pap.length then 1 else 0) ∧ (mn = pap.length → (∀ k, (plAt now k).1 < fm.most) → TrueL fm ws now))
    ⟨low0 ws.length, [], 0, -1, rfl, Way.refl hset, by simp, rfl, fun h => by simp at h⟩ (fun m ρ hP => ?_)
  obtain ⟨now, pap, n, mn, rfl, hway, hmn, rfl, htr⟩ := hP
  have hnl := hway.len
  rw [hl0] at hnl
  have hnl1000 : now.length ≤ 1000 := by omega
  obtain ⟨hp1, hp2⟩ := hway.pap hset.row (Nat.zero_le _)
  refine ⟨decide (mn < pap.length) && !beyond fm now, tst_and2 (tst_cm (cm_gt (ev_len Bt (Bv.bw (bv_var 3 rfl))) (ev_var 4 rfl))) (fun _ => tst_not (tst_borrow (ρ' := [some (fz (bkD (fm, ws))), none, some (fz (.list (now.map plD))), none, none]) (.keep brw_fz (.skip (.keep brw_ow (.skip (.skip .nil))))) (tst_val (ev_call c G_is_beyond (fm, ws, now) hnl1000 (fun _ h => h) (as_cons (Ev.s (ev_var 0 rfl)) (as_cons (Ev.s (ev_var 2 rfl)) as_nil)))))) rfl, fun hb => ?_, fun hb => ?_⟩
  · rw [Bool.and_eq_true] at hb
    have hlt : mn < pap.length := of_decide_eq_true hb.1
    have hnb : beyond fm now = false := by simpa using hb.2
    refine sxs_set 4 (ev_len Bt (Bv.bw (bv_var 3 rfl))) ?_ c.nd
    refine sxs_exprM (evm_call (hix := by simp) [(2, none), (3, none)] c G_sweep ⟨fm, ws, now, pap⟩ ⟨hway.set, (not_beyond h0).mp hnb, hp1⟩ (am_ro (Ev.s (ev_var 0 rfl)) (am_mu 2 none rfl (am_mu 3 none rfl am_nil)))) (fun S ρ' hR => ?_) (fun cl ρ' hR => ?_)
    rotate_left
    · obtain ⟨outs, ⟨e, _⟩, _⟩ := hR
      cases e
    obtain ⟨outs, ⟨_, now2, pap2, n2, rfl, w2, ht2⟩, rfl⟩ := hR
    have w2 : Way fm ws now pap now2 pap2 n2 := w2
    have hs := w2.raises.sum hway.set.row
    have hpl := w2.plen
    have hs2 := w2.set.sum
    refine sxs_nil ⟨_, Wk.refl _, 2 * (9000000 - sumIx fm now2) + (if (pap.length : Int) < pap2.length then 1 else 0), ?_, now2, pap2, n + n2, (pap.length : Int), rfl, hway.trans w2, by omega, rfl, fun h => ht2 (by omega)⟩
    rw [if_pos hlt]
    by_cases hn2 : n2 = 0
    · subst hn2
      have e := w2.zero
      subst e
      rw [if_neg (by omega)]
      omega
    · rw [if_pos (by omega)]
      omega
  · have least : ∀ T, okLow fm T → T.length = ws.length → TrueL fm ws T → leL now T := fun T a b d => raises_le hway.raises hset.row a (by rw [hl0, b]) (low0_le _ _) d
    refine sxs_if (hbey now pap mn hnl1000) (fun h => ?_) (fun h => ?_)
    · refine sxs_freeze 3 rfl ?_
      refine sxs_ret (ev_tup (eva_cons ev_non (eva_cons (ev_var 3 rfl) eva_nil))) ?_
      refine ⟨none, pap, rfl, (fun L z => nomatch z), fun T a b d hm => ?_⟩
      exfalso
      have hle := least T a b d
      have : beyond fm now = false := (not_beyond h0).mpr fun k => by
        have h1 := hle k
        have h2 : (plAt T k).1 < fm.most := hm k
        unfold leP at h1
        omega
      rw [this] at h
      cases h
    · have hall := (not_beyond h0).mp h
      have hmn' : mn = pap.length := by
        rw [h] at hb
        have hb : decide (mn < pap.length) = false := by simpa using hb
        have := of_decide_eq_false hb
        omega
      refine sxs_nil ?_
      refine sxs_freeze 2 rfl ?_
      refine sxs_freeze 3 rfl ?_
      refine sxs_ret (ev_tup (eva_cons (ev_var 2 rfl) (eva_cons (ev_var 3 rfl) eva_nil))) ?_
      exact ⟨some now, pap, rfl, fun L z => by cases z; exact ⟨hway.set, htr hmn' hall, hall⟩, fun T a b d hm => ⟨now, rfl, least T a b d⟩⟩
end
end Tl

/-! The drawn laying is true; a true laying is one to be read back. -/
namespace Tl
open PySem PySem.Spec PyProof.Rows L2 PV
theorem behind_by_eq {f : Frm} {p : Plc} {lead : Nat} (hp : p.2 < f.high) (hl : lead ≤ 4) : behindBy f p lead = behindP f p lead := by
  have h0 : 0 < f.high := by omega
  unfold behindBy behindP
  by_cases h : lead < 2
  · rw [if_pos h]
    have dv : ∀ x, x < f.high → (p.1 * f.high + x) / f.high = p.1 ∧ (p.1 * f.high + x) % f.high = x := fun x hx => by
      rw [Nat.mul_comm, Nat.mul_add_div h0, Nat.div_eq_of_lt hx, Nat.mul_add_mod, Nat.mod_eq_of_lt hx]
      exact ⟨rfl, rfl⟩
    by_cases e : lead = 0
    · subst e
      rw [if_pos rfl, Nat.add_zero, (dv p.2 hp).1, (dv p.2 hp).2]
    · have e1 : lead = 1 := by omega
      subst e1
      rw [if_neg (by decide), if_pos (by decide)]
      unfold rowsOn
      by_cases h2 : f.high ≤ p.2 + 1
      · rw [if_pos h2]
        have : p.2 + 1 = f.high := by omega
        rw [Nat.add_assoc, this, Nat.mul_comm, Nat.mul_add_div h0, Nat.div_self h0, Nat.mul_add_mod, Nat.mod_self]
      · rw [if_neg h2, Nat.add_assoc, (dv (p.2 + 1) (by omega)).1, (dv (p.2 + 1) (by omega)).2]
  · rw [if_neg h, if_neg (by omega : ¬ lead = 0)]
    unfold rowsOn oddB
    simp only [decide_eq_false_iff_not]
    by_cases e2 : lead = 2
    · subst e2
      rw [if_pos (by decide : 2 < 3)]
      by_cases h3 : p.2 + 2 < f.high
      · rw [if_pos ⟨rfl, h3⟩, if_neg (by omega)]
      · rw [if_neg (fun z => h3 z.2), if_neg (by omega), if_pos (by omega)]
    · rw [if_neg (fun z => e2 z.1), if_neg (by omega : ¬ lead < 3)]
      by_cases e4 : lead = 4 ∧ (f.first + p.1) % 2 = 1
      · rw [if_pos e4, if_pos ⟨e4.1, by omega⟩]
      · rw [if_neg e4, if_neg (fun z => e4 ⟨z.1, by omega⟩)]
section
variable {ns : List Int} {most : Nat}
theorem lead_in {k : Nat} (hm : most ≤ 40) (hk : k < (layN ns most).length) : (wdAt (wordsN ns most) k).lead ≤ 4 ∧ letB (formN ns most) (layN ns most) k (wdAt (wordsN ns most) k).lead = true := by
  have h := (words_get (ns := ns) (most := most) (wdAt_get (ws := wordsN ns most) (k := k) (by rw [words_len]; exact hk))).2
  have hc := (words_ok (ns := ns) hm).some_ k hk
  have hmem : (wdAt (wordsN ns most) k).lead ∈ choices (formN ns most) (layN ns most) k := by
    rw [h]
    show (choices _ _ k).getD _ 0 ∈ _
    have hlt := Nat.mod_lt ((numbers ns most).getD k 0 / 10 ^ 13) hc
    rw [List.getD_eq_getElem?_getD, List.getElem?_eq_getElem hlt]
    exact List.getElem_mem _
  unfold choices at hmem
  obtain ⟨a, b⟩ := List.mem_filter.mp hmem
  exact ⟨by have := List.mem_range.mp a; omega, b⟩
theorem drawn_low (hm : most ≤ 40) : okLow (formN ns most) (layN ns most) := fun k => by
  have h1 := (lay_at (ns := ns) hm k).1
  have h2 := (form_ok (ns := ns) hm).2.1
  omega
theorem most_ok (hm : most ≤ 40) : manyOf (layN ns most) ≤ (formN ns most).most ∧ (formN ns most).most ≤ 110 ∧ 0 < (formN ns most).most := by
  have h1 : (formN ns most).most = lastOf (layN ns most) + 1 + bookNo ns / 6 / 24 % 4 := rfl
  have h2 : lastOf (layN ns most) ≤ 100 := by
    unfold lastOf
    cases e : (layN ns most).getLast? with
    | none => exact Nat.zero_le _
    | some p =>
      obtain ⟨k, hk⟩ := List.mem_iff_getElem?.mp (List.mem_of_getLast? e)
      have h1 := plAt_get (List.getElem?_eq_some_iff.mp hk).1
      rw [hk] at h1
      have h2 := (lay_at (ns := ns) hm k).2
      rw [← Option.some.inj h1] at h2
      exact h2
  have h3 : manyOf (layN ns most) ≤ lastOf (layN ns most) + 1 := by
    unfold manyOf lastOf
    cases (layN ns most).getLast? <;> simp
  omega
theorem drawn_true (hm : most ≤ 40) : TrueL (formN ns most) (wordsN ns most) (layN ns most) := by
  have hR := drawn_read (ns := ns) hm
  have hW := drawn_wide (ns := ns) hm
  have hF := foot_fit hR hW
  intro k hk
  have hl := lead_in (ns := ns) hm hk
  have hlow := drawn_low (ns := ns) hm
  have hw := words_get (ns := ns) (most := most) (wdAt_get (ws := wordsN ns most) (k := k) (by rw [words_len]; exact hk))
  refine ⟨?_, ?_, hW.row k hk, ?_, fun h0 hkept => ?_⟩
  · have := lay_page (ns := ns) hm k hk
    have := (most_ok (ns := ns) hm).1
    omega
  · obtain ⟨h4, hlet⟩ := hl
    unfold rBehind
    generalize (wdAt (wordsN ns most) k).lead = lead at h4 hlet
    unfold letB at hlet
    rw [Bool.and_eq_true] at hlet
    obtain ⟨ha, hb⟩ := hlet
    have ha : ¬ (lead = 4 ∧ ((formN ns most).first + (plAt (layN ns most) k).1) % 2 = 0) := by
      simp at ha
      omega
    have hfirst : firstFrom (formN ns most) (plAt (layN ns most) k) lead = plAt (layN ns most) k := by
      unfold firstFrom oddB
      rw [if_neg]
      simp only [decide_eq_false_iff_not]
      intro z
      exact ha ⟨z.1, by omega⟩
    have hlat : (if 0 < k then laterP (plAt (layN ns most) k) (behindP (formN ns most) (plAt (layN ns most) (k - 1)) lead) else plAt (layN ns most) k) = plAt (layN ns most) k := by
      split
      · rename_i h0
        rw [decide_eq_true h0, Bool.true_and] at hb
        have hb : sooner (plAt (layN ns most) k) (behindBy (formN ns most) (plAt (layN ns most) (k - 1)) lead) = false := by simpa using hb
        rw [behind_by_eq (hlow _) h4] at hb
        unfold sooner at hb
        have hb := of_decide_eq_false hb
        unfold laterP
        rw [if_neg]
        unfold ltP
        omega
      · rfl
    rw [hlat, hfirst]
    exact leP_refl _
  · have h1 := hR.fit k hk
    have h2 : stH (layN ns most) (ftW (formN ns most) (layN ns most) (wordsN ns most)) k ≤ stH (layN ns most) (rowsW (formN ns most) (layN ns most) (wordsN ns most)) k := stH_mono k fun j hj => by
      unfold ftW rowsW
      rw [hF _ (List.mem_of_getElem? (wdAt_get (ws := wordsN ns most) (k := j) (by rw [words_len]; omega)))]
      exact Nat.le_refl _
    omega
  · rw [hw.2] at hkept
    have hkept : (!apartB (layN ns most) k && decide ((numbers ns most).getD k 0 / 10 ^ 13 / 60 % 2 = 1)) = true := hkept
    rw [Bool.and_eq_true] at hkept
    have h1 : apartB (layN ns most) k = false := by simpa using hkept.1
    unfold apartB at h1
    have := of_decide_eq_false h1
    omega
end
/-- a true laying of clean words -/
theorem true_read {f : Frm} {ws : List Wrd} {L : List Plc} (hb : okBk f ws L) (hrow : okLow f L) (ht : TrueL f ws L) (hc : ∀ w ∈ ws, nobSay w.own ∧ ∀ s ∈ w.foot, nobSay s) : okRead f ws L ∧ okWide f ws L := by
  have hfoot : ∀ k, k < L.length → (∀ s ∈ (wdAt ws k).foot, (said f L s).length ≤ f.wide) ∧ ftW f L ws k = rowsW f L ws k := by
    intro k hk
    have h1 := (ht k hk).high
    have h2 := own_stH L (ftW f L ws) k
    have hw : ∀ s ∈ (wdAt ws k).foot, (said f L s).length ≤ f.wide := by
      intro s hs
      apply Nat.le_of_not_lt
      intro z
      have : ftW f L ws k = f.high := highGo_high _ _ _ ⟨_, List.mem_map.mpr ⟨s, hs, rfl⟩, z⟩
      omega
    refine ⟨hw, ?_⟩
    have e : ftW f L ws k = min (grow f.wide 0 0 ((wdAt ws k).foot.map fun s => (said f L s).length)) f.high := highGo_grow _ _ _ (fun x hx => by obtain ⟨s, hs, rfl⟩ := List.mem_map.mp hx; exact hw s hs)
    unfold rowsW
    rw [filled_len]
    omega
  refine ⟨⟨hb, true_rises hrow ht, fun k hk => ?_, hc⟩, ⟨fun k hk => (ht k hk).wide, fun w hw s hs => ?_⟩⟩
  · have h1 := (ht k hk).high
    have h2 : stH L (rowsW f L ws) k ≤ stH L (ftW f L ws) k := stH_mono k fun j hj => by rw [(hfoot j (by omega)).2]; exact Nat.le_refl _
    omega
  · obtain ⟨k, hk⟩ := List.mem_iff_getElem?.mp hw
    have hlt := (List.getElem?_eq_some_iff.mp hk).1
    have e : wdAt ws k = w := Option.some.inj ((wdAt_get hlt).symm.trans hk)
    exact (hfoot k (by have := hb.len; omega)).1 s (by rw [e]; exact hs)
end Tl

/-! Pages read back: the words, walked. -/
namespace Tl
open PySem PySem.Spec PyProof.Rows L2 PV
def atOf (f : Frm) (ws : List Wrd) (ps : List Plc) (k : Nat) : Nat := (wordsAt f ps (plAt ps k) ((ps.zip ws).take k)).length
def atPrev (f : Frm) (ws : List Wrd) (ps : List Plc) (k : Nat) : Nat := if k = 0 then 0 else atOf f ws ps (k - 1)
section
variable {P : Program} {w : World} {K : PySem.W.Frag} {mg : Str → Option Value} {base : Heap} {C : Ec → Addr}
abbrev insRd (i : InBk) : List Slot := [fz (bkD (i.1, i.2.1)), fz (.list (i.2.2.map plD)), fz (.list ((pagesOf i.1 i.2.1 i.2.2).map pgD))]
abbrev C_words_read (P : Program) (w : World) (K : PySem.W.Frag) (mg : Str → Option Value) (base : Heap) (C : Ec → Addr) := Callee P w K mg base 2 "_law_words_read" (spP K C 3 insRd (fun i => okRead i.1 i.2.1 i.2.2) (fun i => is (.ok (fz (.bool true)))))
theorem ok_words_read (Bt : Blt mg) (G_truly : C_truly P w K mg base C) (D : Df K mg "_law_words_read" s_law_words_read) : C_words_read P w K mg base C := by
  refine callee_of D sc_law_words_read (fun _ _ _ _ _ _ us hl => match us, hl with | [_, _, _], _ => rfl) (fun f cdv A outer s H E c i hi => ?_)
  obtain ⟨fm, ws, ps⟩ := i
  have hi : okRead fm ws ps := hi
  have hb := hi.bk
  have hl := hb.len
  have h100 := hb.pls.1
  have htru := read_tru hi
  show Sxs _ _ _ [some (fz (bkD (fm, ws))), some (fz (.list (ps.map plD))), some (fz (.list ((pagesOf fm ws ps).map pgD))), none, none, none, none, none, none, none, none] _
  refine sxs_unpack (tg_tup c.calm (tgs_cons 3 c.nd (tgs_cons 4 c.nd tgs_nil))) (ev_var 0 rfl) rfl ?_
  refine sxs_set 5 ev_int ?_ c.nd
  refine sxs_for c (fun k ρ => ρ = [some (fz (bkD (fm, ws))), some (fz (.list (ps.map plD))), some (fz (.list ((pagesOf fm ws ps).map pgD))), some (fz (frD fm)), some (fz (.list (ws.map wdD))), some (fz (.int (atPrev fm ws ps k))), none, none, none, none, none])
    (iv_enum Bt (ev_var 4 rfl)) (tg_tup c.calm (tgs_cons 6 c.nd (tgs_cons 7 c.nd tgs_nil))) rfl (fun k d ρ hd hP => ?_) (fun ρ hP => ?_)
  · subst hP
    obtain ⟨e, he, rfl⟩ := enums_of hd
    rw [List.getElem?_map] at he
    obtain ⟨wd, hw, rfl⟩ := Option.map_eq_some_iff.mp he
    have hkw : k < ws.length := (List.getElem?_eq_some_iff.mp hw).1
    have hkp : k < ps.length := hl ▸ hkw
    have hwe : wdAt ws k = wd := Option.some.inj ((wdAt_get hkw).symm.trans hw)
    have hwd := hb.wrd wd (List.mem_of_getElem? hw)
    have hp := plAt_get hkp
    have hah := words_ahead hi hkp
    have hal := words_all hi hkp
    obtain ⟨hrow, hne⟩ := row_get hi hkp
    have hnob := words_nob hi (plAt ps k)
    have hpg := page_get (f := fm) (ws := ws) (rises_page hi.rises hkp)
    have hsz : (Txt.join (" " : Str) (wordsAt fm ps (plAt ps k) (ps.zip ws))).length ≤ 10100 := by
      have hbo := (bodyAt_ok hb.frm hb.pls (plAt ps k) (ps.zip ws) fun x hx => hb.wrd x.2 (List.of_mem_zip hx).2) _ (by rw [body_join, if_neg hne])
      have : (ps.zip ws).length ≤ 100 := by rw [List.length_zip]; omega
      omega
    refine ⟨⟨fun _ => ⟨_, rfl⟩, rfl⟩, ?_⟩
    show Sxs _ _ _ [some (fz (bkD (fm, ws))), some (fz (.list (ps.map plD))), some (fz (.list ((pagesOf fm ws ps).map pgD))), some (fz (frD fm)), some (fz (.list (ws.map wdD))), some (fz (.int (atPrev fm ws ps k))), some (fz (.int k)), some (fz (wdD wd)), none, none, none] _
    refine sxs_ifJ [some (fz (bkD (fm, ws))), some (fz (.list (ps.map plD))), some (fz (.list ((pagesOf fm ws ps).map pgD))), some (fz (frD fm)), some (fz (.list (ws.map wdD))), some (fz (.int (atOf fm ws ps k))), some (fz (.int k)), some (fz (wdD wd)), none, none, none] (t := decide (0 < k ∧ plAt ps (k - 1) = plAt ps k))
      (tst_and2 (q := PyData.eqv (plD (plAt ps (k - 1))) (plD (plAt ps k))) (tst_cm (cm_gt (ev_var 6 rfl) ev_int)) (fun h => tst_cm (cm_eqD c (Ev.rv (ev_ixL (Bv.bw (Ev.bv (ev_var 1 rfl))) ((ev_sub (ev_var 6 rfl) ev_int).to (e := .int ((k - 1 : Nat) : Int)) (by have : (0 : Int) < k := of_decide_eq_true h; congr 1; omega)) (atI_map plD (plAt_get (ps := ps) (k := k - 1) (by omega))))) (Ev.rv (ev_ixL (Bv.bw (Ev.bv (ev_var 1 rfl))) (ev_var 6 rfl) (atI_map plD hp))) (cl_shaped (pl_cl _)) (cl_shaped (pl_cl _)))) (by rw [pl_ne, Bool.decide_and]; congr 1; rw [decide_eq_decide]; omega)) (fun h => ?_) (fun h => ?_) ?_
    · have h : 0 < k ∧ plAt ps (k - 1) = plAt ps k := of_decide_eq_true h
      rw [if_pos h] at hah
      refine sxs_set 5 ((ev_add (ev_var 5 rfl) ev_int).to (e := .int (atOf fm ws ps k)) (by unfold atPrev; rw [if_neg (by omega)]; unfold atOf; rw [hah, List.length_append, List.length_singleton]; rfl)) ?_ c.nd
      exact sxs_nil (Wk.refl _)
    · have h : ¬ (0 < k ∧ plAt ps (k - 1) = plAt ps k) := of_decide_eq_false h
      rw [if_neg h] at hah
      refine sxs_set 5 (ev_int.to (e := .int (atOf fm ws ps k)) (by unfold atOf; rw [hah]; rfl)) ?_ c.nd
      exact sxs_nil (Wk.refl _)
    have hwl : (wordsAt fm ps (plAt ps k) (ps.zip ws)).length = atOf fm ws ps k + 1 + (wordsAt fm ps (plAt ps k) ((ps.zip ws).drop (k + 1))).length := by rw [hal, List.length_append, List.length_append]; rfl
    have hwk : (wordsAt fm ps (plAt ps k) (ps.zip ws))[atOf fm ws ps k]? = some (said fm ps wd.own) := by
      rw [hal, List.append_assoc, List.getElem?_append_right (by unfold atOf; exact Nat.le_refl _), hwe]
      unfold atOf
      simp
    have hbeh := words_behind hi hkp
    refine sxs_unpack (tg_tup c.calm (tgs_cons 8 c.nd (tgs_cons 9 c.nd tgs_nil))) (ev_ixL (Bv.bw (Ev.bv (ev_var 1 rfl))) (ev_var 6 rfl) (atI_map plD hp)) rfl ?_
    refine sxs_set 10 ((Fr.ev (fr_split (ev_ixL (Bv.bw (Ev.bv (ev_ixT (ev_ixL (Bv.bw (Ev.bv (ev_var 2 rfl))) (ev_var 8 rfl) (atI_map pgD hpg)) ev_int rfl))) (ev_var 9 rfl) (atI_map PyData.str hrow)) ev_str (by decide +kernel) (szm (by omega)))).to (e := .list ((wordsAt fm ps (plAt ps k) (ps.zip ws)).map .str)) (by rw [split_row hne hnob])) ?_ c.nd
    generalize wordsAt fm ps (plAt ps k) (ps.zip ws) = ww at hwl hwk
    refine sxs_if (t := false) (tst_or2 (tst_cm (cm_ge (ev_var 5 rfl) (ev_len Bt (Bv.bw (Ev.bv (ev_var 10 rfl)))))) (fun _ => tst_cm (cm_neS (ev_ixL (Bv.bw (Ev.bv (ev_var 10 rfl))) (ev_var 5 rfl) (atI_map PyData.str hwk)) (ev_call c G_truly ((fm, wd.own, ps), pagesOf fm ws ps) ⟨⟨hb.frm, hb.pls, hwd.own⟩, htru⟩ (fun _ h => h) (as_cons (Ev.s (ev_var 3 rfl)) (as_cons (Ev.s (ev_ixT (ev_var 7 rfl) ev_int rfl)) (as_cons (Ev.s (ev_var 1 rfl)) (as_cons (Ev.s (ev_var 2 rfl)) as_nil))))))) (by
        rw [List.length_map, decide_eq_false (by omega), decide_eq_true rfl]; rfl)) (fun h => nomatch h) (fun h => ?_)
    refine sxs_nil ?_
    refine sxs_if (t := false) (tst_and2 (p := decide (k + 1 = ps.length) || !decide (plAt ps (k + 1) = plAt ps k)) (q := !decide (ww.length = atOf fm ws ps k + 1))
      (tst_or2 (p := decide (k + 1 = ps.length)) (q := !decide (plAt ps (k + 1) = plAt ps k)) ((tst_cm (cm_eq (ev_add (ev_var 6 rfl) ev_int) (ev_len Bt (Bv.bw (Ev.bv (ev_var 4 rfl)))))).to (by rw [List.length_map, decide_eq_decide]; omega)) (fun hk1 => (tst_cm (cm_neD c (Ev.rv (ev_ixL (Bv.bw (Ev.bv (ev_var 1 rfl))) ((ev_add (ev_var 6 rfl) ev_int).to (e := .int ((k + 1 : Nat) : Int)) (by congr 1)) (atI_map plD (plAt_get (ps := ps) (k := k + 1) (by have := of_decide_eq_false hk1; omega))))) (Ev.rv (ev_ixL (Bv.bw (Ev.bv (ev_var 1 rfl))) (ev_var 6 rfl) (atI_map plD hp))) (cl_shaped (pl_cl _)) (cl_shaped (pl_cl _)))).to (by rw [pl_ne])) rfl)
      (fun _ => (tst_cm (cm_ne (ev_len Bt (Bv.bw (Ev.bv (ev_var 10 rfl)))) (ev_add (ev_var 5 rfl) ev_int))).to (by rw [List.length_map]; congr 1; rw [decide_eq_decide]; omega)) ?_) (fun h => nomatch h) (fun h => ?_)
    · by_cases hn : k + 1 = ps.length ∨ plAt ps (k + 1) ≠ plAt ps k
      · rw [hbeh hn] at hwl
        rw [decide_eq_true (show ww.length = atOf fm ws ps k + 1 from hwl), Bool.not_true, Bool.and_false]
      · have h1 : ¬ k + 1 = ps.length := fun z => hn (.inl z)
        have h2 : plAt ps (k + 1) = plAt ps k := Classical.byContradiction fun z => hn (.inr z)
        rw [decide_eq_false h1, decide_eq_true h2]
        rfl
    refine sxs_nil ?_
    refine sxs_nil ⟨_, Wk.of ?_, rfl⟩
    exact wkl_some rfl (wkl_some rfl (wkl_some rfl (wkl_some rfl (wkl_some rfl (wkl_some rfl (wkl_none (wkl_none (wkl_none (wkl_none (wkl_none wkl_nil))))))))))
  · subst hP
    exact sxs_ret ev_bl rfl
end
end Tl

/-! k68: the law. -/
namespace Tl
open PySem PySem.Spec PyProof.Rows L2 PV
def lessNo (ns : List Int) : Nat := mixN (cellAt ns 1 + 37)
def lessN (ns : List Int) : Nat := lessNo ns / 3 % 5 * (if lessNo ns % 3 = 0 then 1 else 0)
def formL (ns : List Int) : Frm := ⟨max 1 ((formN ns 24).wide - lessN ns), (formN ns 24).high, (formN ns 24).first, (formN ns 24).most⟩
theorem rises_pair {L : List Plc} (h : risesP L) : List.Pairwise (fun a b : Plc => a.1 ≤ b.1) L := by
  rw [List.pairwise_iff_getElem]
  intro i j hi hj hij
  have := rises_le h (j - i) i (by omega)
  rw [show i + (j - i) = j by omega] at this
  have e1 := Option.some.inj ((plAt_get hi).symm.trans (List.getElem?_eq_getElem hi))
  have e2 := Option.some.inj ((plAt_get hj).symm.trans (List.getElem?_eq_getElem hj))
  rw [e1, e2] at this
  rcases this with a | ⟨a, _⟩ <;> omega
section
variable {P : Program} {w : World} {K : PySem.W.Frag} {mg : Str → Option Value} {base : Heap} {C : Ec → Addr}
abbrev C_is_place (P : Program) (w : World) (K : PySem.W.Frag) (mg : Str → Option Value) (base : Heap) (C : Ec → Addr) := Callee P w K mg base 1 "_law_is_place" (spP K C 1 (fun p : Plc => [fz (plD p)]) (fun _ => True) (fun i => is (.ok (fz (.bool true)))))
theorem ok_is_place (Bt : Blt mg) (D : Df K mg "_law_is_place" s_law_is_place) : C_is_place P w K mg base C := by
  refine callee_of D sc_law_is_place (fun _ _ _ _ _ _ us hl => match us, hl with | [_], _ => rfl) (fun f cdv A outer s H E c p _ => ?_)
  show Sxs _ _ _ [some (fz (plD p)), none] _
  refine sxs_if (t := false) (tst_or2 (tst_not (tst_val (ev_isi (T0 := "tuple") (r := true) Bt (ev_var 0 rfl) (by decide +kernel) Bt.tuple (by show kitB "tuple" "tuple" = _; decide +kernel)))) (fun _ => tst_cm (cm_ne (ev_lenT Bt (ev_var 0 rfl)) ev_int)) rfl) (fun h => nomatch h) (fun h => ?_)
  refine sxs_nil ?_
  refine sxs_for c (fun _ ρ => ρ = [some (fz (plD p)), none]) (iv_tup (ev_var 0 rfl)) (tg_name 1 c.nd) rfl (fun i d ρ hd hP => ⟨⟨(fun h => nomatch h), rfl⟩, ?_⟩) (fun ρ hP => ?_)
  · subst hP
    obtain ⟨x, rfl⟩ : ∃ x : Int, d = .int x := by
      match i, hd with
      | 0, hd => exact ⟨_, (Option.some.inj hd).symm⟩
      | 1, hd => exact ⟨_, (Option.some.inj hd).symm⟩
      | n + 2, hd => simp at hd
    show Sxs _ _ _ [some (fz (plD p)), some (fz (.int x))] _
    refine sxs_if (t := false) (tst_or2 (tst_not (tst_val (ev_isi (T0 := "int") (r := true) Bt (ev_var 1 rfl) (by decide +kernel) Bt.int (by show kitB "int" "int" = _; decide +kernel)))) (fun _ => tst_val (ev_isi (T0 := "bool") (r := false) Bt (ev_var 1 rfl) (by decide +kernel) Bt.bool (by show kitB "int" "bool" = _; decide +kernel))) rfl) (fun h => nomatch h) (fun h => ?_)
    refine sxs_nil ?_
    exact sxs_nil ⟨_, Wk.of (wkl_some rfl (wkl_none wkl_nil)), rfl⟩
  · subst hP
    exact sxs_ret ev_bl rfl
abbrev C_laid (P : Program) (w : World) (K : PySem.W.Frag) (mg : Str → Option Value) (base : Heap) (C : Ec → Addr) := Callee P w K mg base 2 "_law_laid" (spP K C 3 (fun i : List Plc × Nat × Nat => [fz (.list (i.1.map plD)), fz (.int i.2.1), fz (.int i.2.2)]) (fun i => i.1.length = i.2.1 ∧ (∀ p ∈ i.1, p.2 < i.2.2) ∧ List.Pairwise (fun a b : Plc => a.1 ≤ b.1) i.1) (fun i => is (.ok (fz (.bool true)))))
theorem ok_laid (Bt : Blt mg) (G_is_place : C_is_place P w K mg base C) (D : Df K mg "_law_laid" s_law_laid) : C_laid P w K mg base C := by
  refine callee_of D sc_law_laid (fun _ _ _ _ _ _ us hl => match us, hl with | [_, _, _], _ => rfl) (fun f cdv A outer s H E c i hi => ?_)
  obtain ⟨L, many, high⟩ := i
  obtain ⟨hl, hr, hp⟩ := hi
  simp only at hl hr hp
  show Sxs _ _ _ [some (fz (.list (L.map plD))), some (fz (.int many)), some (fz (.int high)), none, none] _
  refine sxs_if (t := false) (tst_or2 (tst_not (tst_val (ev_isi (T0 := "list") (r := true) Bt (ev_var 0 rfl) (by decide +kernel) Bt.list (by show kitB "list" "list" = _; decide +kernel)))) (fun _ => tst_cm (cm_ne (ev_len Bt (Bv.bw (Ev.bv (ev_var 0 rfl)))) (ev_var 1 rfl))) (by simp [hl])) (fun h => nomatch h) (fun h => ?_)
  refine sxs_nil ?_
  refine sxs_set 3 ev_int ?_ c.nd
  refine sxs_forL plD L (fun pg : Nat => [some (fz (.list (L.map plD))), some (fz (.int many)), some (fz (.int high)), some (fz (.int pg)), none]) (fun pg ys => (∀ q ∈ ys, q.2 < high ∧ pg ≤ q.1) ∧ List.Pairwise (fun a b : Plc => a.1 ≤ b.1) ys) 0 c (iv_list (ev_var 0 rfl)) (tg_name 4 c.nd) (Wk.refl _) ⟨fun q hq => ⟨hr q hq, Nat.zero_le _⟩, hp⟩ (fun pg y ys hR => ⟨⟨(fun h => nomatch h), rfl⟩, ?_⟩) (fun pg hR => ?_)
  · obtain ⟨h1, h2⟩ := hR
    obtain ⟨hy1, hy2⟩ := h1 y List.mem_cons_self
    rw [List.pairwise_cons] at h2
    show Sxs _ _ _ [some (fz (.list (L.map plD))), some (fz (.int many)), some (fz (.int high)), some (fz (.int pg)), some (fz (plD y))] _
    refine sxs_if (t := false) ((Tws.tst (tw_or (tst_not (tst_val (ev_call c G_is_place y trivial (fun _ h => h) (as_cons (Ev.s (ev_var 4 rfl)) as_nil)))) fun h => (tw_or (tst_cm (cm_lt (i := (y.1 : Int)) (j := (pg : Int)) (ev_ixT (ev_var 4 rfl) ev_int rfl) (ev_var 3 rfl))) fun h => (tw_or1 (tst_not (tst_chain (f := fun i j => decide (i ≤ j)) (g := fun i j => decide (i < j)) (i := 0) (j := (y.2 : Int)) (l := (high : Int)) op_le op_lt ev_int (ev_ixT (ev_var 4 rfl) ev_int rfl) (ev_var 2 rfl))))))).to (by
      rw [decide_eq_false (by omega : ¬ (y.1 : Int) < pg), decide_eq_true (by omega : (0 : Int) ≤ y.2), decide_eq_true (by omega : (y.2 : Int) < high)]; rfl)) (fun h => nomatch h) (fun h => ?_)
    refine sxs_nil ?_
    refine sxs_set 3 (ev_ixT (ev_var 4 rfl) ev_int rfl) ?_ c.nd
    refine sxs_nil ⟨_, Wk.of ?_, y.1, rfl, fun q hq => ⟨(h1 q (List.mem_cons_of_mem _ hq)).1, h2.1 q hq⟩, h2.2⟩
    exact wkl_some rfl (wkl_some rfl (wkl_some rfl (wkl_some rfl (wkl_none wkl_nil))))
  · exact sxs_ret ev_bl rfl
theorem ok_law (Bt : Blt mg) (G_drawn : C_drawn P w K mg base C) (G_mixed : C_mixed P w K mg base C) (G_cell_at : C_cell_at P w K mg base C) (G_settle : C_settle P w K mg base C) (G_laid : C_laid P w K mg base C) (G_pages_of : C_pages_of P w K mg base C) (G_is_pages : C_is_pages P w K mg base C) (G_words_read : C_words_read P w K mg base C) (G_feet_read : C_feet_read P w K mg base C) (D : Df K mg "law" s_law) : CalleeP P w K mg base 11 "law" ["script"] (spP K C 1 (fun ns : List Int => [kn (ns.map .int)]) (fun _ => True) (fun ns => is (.ok (fz (.bool true))))) := by
  refine callee_ofP D sc_law (fun _ _ _ _ _ _ us hl => match us, hl with | [_], _ => rfl) (fun f cdv A outer s H E c ns _ => ?_)
  show Sxs _ _ _ [some (kn (ns.map .int)), none, none, none, none, none, none, none, none, none, none, none, none, none] (bodyS (is (.ok (fz (.bool true)))))
  have hm : (24 : Nat) ≤ 40 := by decide
  have hT := drawn_true (ns := ns) hm
  have hTl := drawn_low (ns := ns) hm
  have hTp : ∀ k, k < (layN ns 24).length → (plAt (layN ns 24) k).1 < (formN ns 24).most := fun k hk => (hT k hk).page
  have hmo := most_ok (ns := ns) hm
  have hf := form_ok (ns := ns) hm
  have hbk := book_ok (ns := ns) hm
  have hnl := numbers_len ns 24
  have hll := lay_len ns 24
  have hwl := words_len ns 24
  have hclean := (drawn_read (ns := ns) hm).clean
  have hw1 : 1 ≤ (formN ns 24).wide := by
    have h1 := (szGo_ge (form1 ns 24) (layN ns 24) (partsN ns 24) (partsN ns 24).length 0 (1, 1, 0, 0) (by omega) (fun h => absurd h (by omega))).1
    rw [List.drop_zero] at h1
    have h2 := wide_ge (ns := ns) (most := 24)
    have h3 : 1 ≤ (sizes (form1 ns 24) (partsN ns 24) (layN ns 24)).1 := h1
    omega
  have hdraw : drawD ns 24 = .tuple [bkD (formN ns 24, wordsN ns 24), .list [.list ((layN ns 24).map plD)]] := rfl
  have hset : okSet (formL ns) (wordsN ns 24) (low0 (wordsN ns 24).length) := by
    have hl0 : (low0 (wordsN ns 24).length).length = (layN ns 24).length := by simp [low0, hwl]
    have hs : (low0 (wordsN ns 24).length).length * (((formL ns).most + 4) * (formL ns).high) ≤ 24 * (114 * 1000) := Nat.mul_le_mul (by rw [hl0]; omega) (Nat.mul_le_mul (by show (formN ns 24).most + 4 ≤ 114; omega) hf.2.2)
    refine ⟨⟨?_, hf.1.2.1, hf.1.2.2.1, hf.1.2.2.2⟩, by rw [hl0, hwl], by rw [hl0]; omega, fun w hw => ?_, fun k => ?_, fun k => ?_, ?_, by omega⟩
    · show max 1 ((formN ns 24).wide - lessN ns) ≤ 1000000
      have := hf.1.1
      omega
    · rw [hl0]; exact hbk.wrd w hw
    · rw [low0_at]
      have hbb := base_ok ns
      have := hf.2.1
      show 0 < (formN ns 24).high
      omega
    · rw [low0_at]; exact Nat.zero_le _
    · show (formN ns 24).most ≤ 900; omega
  have hmix : mixed (cellAt ns 1 + 37) = (lessNo ns : Int) := by rw [mix_eq]; rfl
  refine sxs_unpack (tg_tup c.calm (tgs_cons 1 c.nd (tgs_cons 2 c.nd tgs_nil))) ((ev_call c G_drawn (ns, 24) hm (fun _ h => h) (as_cons (evs_kn 0 rfl) (as_cons (Ev.s ev_int) (as_cons (Ev.s ev_int) as_nil)))).to hdraw) rfl ?_
  refine sxs_set 3 ((ev_call c G_mixed (cellAt ns 1 + 37) trivial (fun _ h => h) (as_cons (Ev.s (ev_add (ev_call c G_cell_at (ns, 1) trivial (fun _ h => h) (as_cons (evs_kn 0 rfl) (as_cons (Ev.s ev_int) as_nil))) ev_int)) as_nil)).to (e := .int (lessNo ns)) (by rw [hmix])) ?_ c.nd
  refine sxs_set 4 ((ev_mul (i := (lessNo ns : Int) / 3 % 5) (j := if decide ((lessNo ns : Int) % 3 = 0) then 1 else 0) (.inl ⟨by omega, by omega⟩) (ev_mod (by decide) (ev_fdiv (by decide) (ev_var 3 rfl) ev_int) ev_int) (ev_intB Bt (ev_cm (cm_eq (ev_mod (by decide) (ev_var 3 rfl) ev_int) ev_int)))).to (e := .int (lessN ns)) (by
    unfold lessN
    by_cases h : lessNo ns % 3 = 0
    · rw [if_pos h, decide_eq_true (by omega)]; congr 1
    · rw [if_neg h, decide_eq_false (by omega)]; congr 1)) ?_ c.nd
  refine sxs_set 5 ((ev_tup (eva_cons (ev_max c Bt ev_int (ev_sub (ev_ixT (ev_ixT (ev_var 1 rfl) ev_int rfl) ev_int rfl) (ev_var 4 rfl))) (eva_cons (ev_ixT (ev_ixT (ev_var 1 rfl) ev_int rfl) ev_int rfl) (eva_cons (ev_ixT (ev_ixT (ev_var 1 rfl) ev_int rfl) ev_int rfl) (eva_cons (ev_ixT (ev_ixT (ev_var 1 rfl) ev_int rfl) ev_int rfl) eva_nil))))).to (e := frD (formL ns)) (by
    unfold frD formL
    congr 2
    show PyData.int (max 1 (((formN ns 24).wide : Int) - (lessN ns : Int))) = _
    congr 1
    show max 1 (((formN ns 24).wide : Int) - (lessN ns : Int)) = ((max 1 ((formN ns 24).wide - lessN ns) : Nat) : Int)
    omega)) ?_ c.nd
  refine sxs_set 6 ((ev_tup (eva_cons (ev_var 5 rfl) (eva_cons (ev_ixT (ev_var 1 rfl) ev_int rfl) eva_nil))).to (e := bkD (formL ns, wordsN ns 24)) rfl) ?_ c.nd
  refine sxs_setE 7 (evm_ixT (fun d ρ' => ρ' = [some (kn (ns.map .int)), some (fz (bkD (formN ns 24, wordsN ns 24))), some (fz (.list [.list ((layN ns 24).map plD)])), some (fz (.int (lessNo ns))), some (fz (.int (lessN ns))), some (fz (frD (formL ns))), some (fz (bkD (formL ns, wordsN ns 24))), none, none, none, none, none, none, none] ∧ ∃ res, d = optD res ∧ (∀ L, res = some L → okSet (formL ns) (wordsN ns 24) L ∧ TrueL (formL ns) (wordsN ns 24) L ∧ ∀ k, (plAt L k).1 < (formL ns).most) ∧ (∀ T, okLow (formL ns) T → T.length = (wordsN ns 24).length → TrueL (formL ns) (wordsN ns 24) T → (∀ k, (plAt T k).1 < (formL ns).most) → ∃ L, res = some L ∧ leL L T))
    (evm_callD (Ss := [fz (bkD (formL ns, wordsN ns 24))]) (Ds := [fz .none]) c G_settle (formL ns, wordsN ns 24) ⟨hset, hmo.2.2⟩ (as_cons (Ev.s (ev_var 6 rfl)) as_nil) (fun F => .cons ⟨rfl, .non⟩ .nil) rfl) (fun S ρ' hR => by
    obtain ⟨⟨res, pap, e, h1, h2⟩, rfl⟩ := hR
    exact ⟨_, optD res, Except.ok.inj e, rfl, rfl, res, rfl, h1, h2⟩)) (fun S ρ' hR => ?_) (fun cl ρ' hR => ?_) c.nd
  rotate_left
  · obtain ⟨⟨_, _, e, _⟩, _⟩ := hR
    cases e
  obtain ⟨d, ⟨rfl, res, rfl, hsome, hleast⟩, rfl⟩ := hR
  cases res with
  | none =>
    refine sxs_if (t := true) (Tst.to (tst_cm (cm_isN (ev_var 7 rfl))) rfl) (fun h => ?_) (fun h => nomatch h)
    refine sxs_ret ((ev_cm (cm_gt (i := (lessN ns : Int)) (j := 0) (ev_var 4 rfl) ev_int)).to (e := .bool true) ?_) rfl
    congr 1
    refine decide_eq_true ?_
    apply Classical.byContradiction
    intro z
    have hl : lessN ns = 0 := by omega
    have ef : formL ns = formN ns 24 := by
      unfold formL
      rw [hl, Nat.sub_zero, Nat.max_eq_right hw1]
    rw [ef] at hleast
    obtain ⟨L, e, _⟩ := hleast (layN ns 24) hTl hwl.symm hT fun k => by
      by_cases hk : k < (layN ns 24).length
      · exact hTp k hk
      · have : plAt (layN ns 24) k = (0, 0) := by
          unfold plAt
          rw [List.getD_eq_getElem?_getD, List.getElem?_eq_none (by omega)]
          rfl
        rw [this]
        exact hmo.2.2
    cases e
  | some L =>
    obtain ⟨hLs, hLt, hLp⟩ := hsome L rfl
    obtain ⟨hR, hW⟩ := true_read hLs.bk hLs.row hLt hclean
    have hff := foot_fit hR hW
    have hml := many_le0 hR.bk.pls
    have hpl : ∀ p ∈ pagesOf (formL ns) (wordsN ns 24) L, p.2.length = (formL ns).high ∧ ∀ r ∈ p.2, r.length ≤ (formL ns).wide := fun p hp => by
      obtain ⟨g, _, rfl⟩ := List.mem_map.mp hp
      exact ⟨page_high hR g, page_wide hR hW g⟩
    have hlen := pages_len (formL ns) (wordsN ns 24) L
    have hgets := fun g (hg : g < manyOf L) => page_get (f := formL ns) (ws := wordsN ns 24) hg
    have hmle : manyOf L ≤ (formL ns).most := by
      unfold manyOf
      cases e : L.getLast? with
      | none => exact Nat.zero_le _
      | some l =>
        obtain ⟨k, hk⟩ := List.mem_iff_getElem?.mp (List.mem_of_getLast? e)
        have h1 := plAt_get (List.getElem?_eq_some_iff.mp hk).1
        rw [hk] at h1
        have h2 := hLp k
        rw [← Option.some.inj h1] at h2
        exact h2
    generalize formL ns = fm at *
    generalize wordsN ns 24 = ws at *
    have h100 := hR.bk.pls.1
    have hhigh := hR.bk.frm.2.1
    have hwl := hR.bk.frm.1
    have hwsl := hR.bk.len
    show Sxs _ _ _ [some (kn (ns.map .int)), some (fz (bkD (formN ns 24, ws))), some (fz (.list [.list ((layN ns 24).map plD)])), some (fz (.int (lessNo ns))), some (fz (.int (lessN ns))), some (fz (frD fm)), some (fz (bkD (fm, ws))), some (fz (.list (L.map plD))), none, none, none, none, none, none] _
    refine sxs_if (t := false) (Tst.to (tst_cm (cm_isN (ev_var 7 rfl))) rfl) (fun h => nomatch h) (fun h => ?_)
    refine sxs_nil ?_
    refine sxs_if (t := false) ((tst_not (tst_val (ev_call c G_laid (L, ws.length, fm.high) ⟨hwsl.symm, fun p hp => by
        obtain ⟨k, hk⟩ := List.mem_iff_getElem?.mp hp
        have e := Option.some.inj ((plAt_get (List.getElem?_eq_some_iff.mp hk).1).symm.trans hk)
        have := hLs.row k
        rw [e] at this
        exact this, rises_pair hR.rises⟩ (fun _ h => h) (as_cons (Ev.s (ev_var 7 rfl)) (as_cons (Ev.s ((ev_len Bt (Bv.bw (Ev.bv (ev_ixT (ev_var 1 rfl) ev_int rfl)))).to (e := .int ((ws.length : Nat) : Int)) (by rw [List.length_map]))) (as_cons (Ev.s (ev_ixT (ev_var 5 rfl) ev_int rfl)) as_nil)))))).to rfl) (fun h => nomatch h) (fun h => ?_)
    refine sxs_nil ?_
    refine sxs_set 8 (ev_maxL (ns := (0 : Int) :: L.map fun p => (p.1 : Int) + 1) (m := ((manyOf L : Nat) : Int)) c Bt (Bv.bw (Fr.bv (Fr.to (fr_cat (Fr.bv (fr_lst (eva_cons ev_int eva_nil))) (Fr.bv (Fr.to (fr_lc (ks := (L.map fun p => PyData.int ((p.1 : Int) + 1)).map some) [("place", 12)] c (iv_list (ev_var 7 rfl)) (fun s H Cc cl fp => have cb := c.blk s H Cc cl fp; tg_name 12 cb.nd) (szl (by rw [List.length_map]; omega)) (by simp) (fun i d r hd hr => ?_)) (keep_all _))) (szl (by simp; omega))) (by rw [List.map_cons, List.map_map]; rfl)))) (by simp) (max_many hR.rises)) ?_ c.nd
    · rw [List.getElem?_map] at hd
      obtain ⟨x, hx, rfl⟩ := Option.map_eq_some_iff.mp hd
      rw [List.getElem?_map, List.getElem?_map, hx] at hr
      obtain rfl := (Option.some.inj hr).symm
      exact ⟨⟨(fun h => nomatch h), rfl⟩, true, rfl, (fun h => nomatch h), fun _ => ⟨_, rfl, fun s H Cc cl fp => ev_add (ev_ixT (ev_var 12 rfl) ev_int rfl) ev_int⟩⟩
    refine sxs_set 9 ((FrT.ev (t_call c G_pages_of (fm, ws, L) hR.bk (fun _ h => h) (as_cons (Ev.s (ev_var 6 rfl)) (as_cons (Ev.s (Fr.ev (fr_list Bt (Bv.bw (Ev.bv (ev_var 7 rfl)))))) as_nil)))).to (lst_er none pgT pgD pgT_er (pagesOf fm ws L))) ?_ c.nd
    refine sxs_if (t := false) (tst_or2 (p := false) ((tst_cm (cm_gt (i := ((manyOf L : Nat) : Int)) (j := (fm.most : Int)) (ev_var 8 rfl) (ev_ixT (ev_var 5 rfl) ev_int rfl))).to (by rw [decide_eq_false]; omega)) (fun _ => (tst_not (tst_val (ev_call c G_is_pages (pagesOf fm ws L, manyOf L, fm.high) ⟨hlen, fun p hp => (hpl p hp).1, by show manyOf L ≤ 10000; omega, by show fm.high ≤ 10000; omega⟩ (fun _ h => h) (as_cons (Ev.s (ev_var 9 rfl)) (as_cons (Ev.s (ev_var 8 rfl)) (as_cons (Ev.s (ev_ixT (ev_var 5 rfl) ev_int rfl)) as_nil))))))) rfl) (fun h => nomatch h) (fun h => ?_)
    refine sxs_nil ?_
    refine sxs_forE pgD (pagesOf fm ws L) (fun _ : Unit => [some (kn (ns.map .int)), some (fz (bkD (formN ns 24, ws))), some (fz (.list [.list ((layN ns 24).map plD)])), some (fz (.int (lessNo ns))), some (fz (.int (lessN ns))), some (fz (frD fm)), some (fz (bkD (fm, ws))), some (fz (.list (L.map plD))), some (fz (.int ((manyOf L : Nat) : Int))), some (fz (.list ((pagesOf fm ws L).map pgD))), none, none, none, none]) (fun _ _ _ => True) () c (iv_enum Bt (ev_var 9 rfl)) (tg_tup c.calm (tgs_cons 10 c.nd (tgs_cons 11 c.nd tgs_nil))) rfl (Wk.refl _) trivial (fun g _ p ys hp _ => ?_) (fun _ _ => ?_)
    · have hg : g < manyOf L := by rw [← hlen]; exact (List.getElem?_eq_some_iff.mp hp).1
      obtain ⟨hp1, hp2⟩ := hpl p (List.mem_of_getElem? hp)
      have hpe : p = pageAt fm L (L.zip ws) g := Option.some.inj (hp.symm.trans (hgets g hg))
      have hnum : p.1 = ((fm.first + g : Nat) : Int) := by rw [hpe]; rfl
      show Sxs _ _ _ [some (kn (ns.map .int)), some (fz (bkD (formN ns 24, ws))), some (fz (.list [.list ((layN ns 24).map plD)])), some (fz (.int (lessNo ns))), some (fz (.int (lessN ns))), some (fz (frD fm)), some (fz (bkD (fm, ws))), some (fz (.list (L.map plD))), some (fz (.int ((manyOf L : Nat) : Int))), some (fz (.list ((pagesOf fm ws L).map pgD))), some (fz (.int g)), some (fz (pgD p)), none, none] _
      refine sxs_if (t := false) (tst_or2 (p := false) (q := false) ((tst_cm (cm_ne (i := p.1) (j := (fm.first : Int) + g) (ev_ixT (ev_var 11 rfl) ev_int rfl) (ev_add (ev_ixT (ev_var 5 rfl) ev_int rfl) (ev_var 10 rfl)))).to (by rw [hnum, decide_eq_true (by omega)]; rfl)) (fun _ => (tst_val (ev_any (ns := p.2.map fun _ => false) c Bt (Bv.bw (Fr.bv (Fr.to (fr_lc (ks := ((p.2.map fun _ => false).map PyData.bool).map some) [("row", 13)] c (iv_list (ev_ixT (ev_var 11 rfl) ev_int rfl)) (fun s H Cc cl fp => have cb := c.blk s H Cc cl fp; tg_name 13 cb.nd) (szl (by rw [List.length_map]; omega)) (by simp) (fun i d r hd hr => ?_)) (keep_all _)))))).to (by rw [List.any_map]; exact List.any_eq_false.mpr fun _ _ => by simp)) rfl) (fun h => nomatch h) (fun h => ?_)
      · rw [List.getElem?_map] at hd
        obtain ⟨x, hx, rfl⟩ := Option.map_eq_some_iff.mp hd
        rw [List.getElem?_map, List.getElem?_map, List.getElem?_map, hx] at hr
        obtain rfl := (Option.some.inj hr).symm
        have hxl := hp2 x (List.mem_of_getElem? hx)
        refine ⟨⟨(fun h => nomatch h), rfl⟩, true, rfl, (fun h => nomatch h), fun _ => ⟨_, rfl, fun s H Cc cl fp => ?_⟩⟩
        exact (ev_cm (cm_gt (i := (x.length : Int)) (j := (fm.wide : Int)) (ev_lenS Bt (ev_var 13 rfl) (szm (by omega))) (ev_ixT (ev_var 5 rfl) ev_int rfl))).to (by congr 1; rw [decide_eq_false]; omega)
      refine sxs_nil ?_
      refine sxs_nil ⟨_, Wk.of ?_, (), rfl, trivial⟩
      exact wkl_some rfl (wkl_some rfl (wkl_some rfl (wkl_some rfl (wkl_some rfl (wkl_some rfl (wkl_some rfl (wkl_some rfl (wkl_some rfl (wkl_some rfl (wkl_none (wkl_none (wkl_none (wkl_none wkl_nil)))))))))))))
    · exact sxs_ret (ev_and (ev_call c G_words_read (fm, ws, L) hR (fun _ h => h) (as_cons (Ev.s (ev_var 6 rfl)) (as_cons (Ev.s (ev_var 7 rfl)) (as_cons (Ev.s (ev_var 9 rfl)) as_nil)))) (fun _ => ev_bo1 (ev_call c G_feet_read (fm, ws, L) ⟨hR, hff⟩ (fun _ h => h) (as_cons (Ev.s (ev_var 6 rfl)) (as_cons (Ev.s (ev_var 7 rfl)) (as_cons (Ev.s (ev_var 9 rfl)) as_nil)))))) rfl
end
end Tl

/-! k68: the head, and the end. -/
namespace Tl
open PySem PySem.Spec PyProof.Rows L2 PV
abbrev hk : PySem.W.Hook := He.hookD 4 (bltFa ++ glos) fns
def ob (s : PySem.W.SharedT) : He.AlD := He.obsDG 4 (bltFa ++ glos) fns (HandSHeadRun.getT s)
theorem ob_eq (s : PySem.W.SharedT) : ob s = hk.obs s.abs := He.obsDG_eq (HandSHeadRun.getT_eq s)
theorem run (w : World) : HandSHeadRun.RunEq R (PySem.W.view R.prog [lawAt]) hk ob 2000 loose w := by
  intro os
  kernel_rfl
theorem made {P : Program} {w : World} {K : PySem.W.Frag} {h : Heap} {mg : Str → Option Value} (C : Ec → Addr) (X : K.In h) (G : h.Ns mainGlobals mg) (c : He.SaysD (bltFa ++ glos) fns K) (base : Heap) : CalleeP P w K mg base 11 "law" ["script"] (spLaw K C fun _ => True) := by
  have Bt := blt_of X G c
  have g0 : C_figures_of P w K mg base C := ok_figures_of Bt (df_of X G c 0 17)
  have g1 : C_is_later P w K mg base C := ok_is_later (df_of X G c 1 18)
  have g2 : C_later P w K mg base C := ok_later g1 (df_of X G c 2 19)
  have g3 : C_is_odd P w K mg base C := ok_is_odd (df_of X G c 3 20)
  have g4 : C_rows_on P w K mg base C := ok_rows_on (df_of X G c 4 21)
  have g5 : C_behind P w K mg base C := ok_behind g4 g3 (df_of X G c 5 22)
  have g6 : C_first_from P w K mg base C := ok_first_from g3 (df_of X G c 6 23)
  have g7 : C_said P w K mg base C := ok_said Bt g0 (df_of X G c 7 24)
  have g8 : C_wide_of P w K mg base C := ok_wide_of Bt g7 (df_of X G c 8 25)
  have g9 : C_foot_rows P w K mg base C := ok_foot_rows Bt g7 (df_of X G c 9 26)
  have g10 : C_foot_high P w K mg base C := ok_foot_high Bt g9 (df_of X G c 10 27)
  have g11 : C_first_bounds P w K mg base C := ok_first_bounds Bt (df_of X G c 11 28)
  have g12 : C_by_ahead P w K mg base C := ok_by_ahead g2 g5 g6 (df_of X G c 12 29)
  have g13 : C_by_width P w K mg base C := ok_by_width g8 g5 (df_of X G c 13 30)
  have g14 : C_by_height P w K mg base C := ok_by_height g10 (df_of X G c 14 31)
  have g15 : C_by_next P w K mg base C := ok_by_next Bt (df_of X G c 15 32)
  have g16 : C_by_itself P w K mg base C := ok_by_itself g8 g10 (df_of X G c 16 33)
  have g17 : C_reach P w K mg base C := ok_reach g2 g12 g13 g14 g15 g16 (df_of X G c 17 34)
  have g18 : C_lift P w K mg base C := ok_lift g17 (df_of X G c 18 35)
  have g19 : C_lift_back P w K mg base C := ok_lift_back g18 (df_of X G c 19 36)
  have g20 : C_sweep P w K mg base C := ok_sweep Bt g8 g10 g18 g19 (df_of X G c 20 37)
  have g21 : C_is_beyond P w K mg base C := ok_is_beyond Bt (df_of X G c 21 38)
  have g22 : C_settle P w K mg base C := ok_settle Bt g11 g21 g20 (df_ofD X G c 22 39)
  have g23 : C_body_rows P w K mg base C := ok_body_rows Bt g7 (df_of X G c 23 40)
  have g24 : C_feet_rows P w K mg base C := ok_feet_rows Bt g9 (df_of X G c 24 41)
  have g25 : C_pages_of P w K mg base C := ok_pages_of Bt g23 g24 (df_of X G c 25 42)
  have g26 : C_cell_at P w K mg base C := ok_cell_at Bt (df_of X G c 26 43)
  have g27 : C_mixed P w K mg base C := ok_mixed (df_of X G c 27 44)
  have g28 : C_first P w K mg base C := ok_first Bt (df_of X G c 28 45)
  have g29 : C_signs P w K mg base C := ok_signs Bt (df_of X G c 29 46)
  have g30 : C_said_by P w K mg base C := ok_said_by Bt (df_of X G c 30 47)
  have g31 : C_high_by P w K mg base C := ok_high_by Bt g30 (df_of X G c 31 48)
  have g32 : C_behind_by P w K mg base C := ok_behind_by (df_of X G c 32 49)
  have g33 : C_sooner P w K mg base C := ok_sooner (df_of X G c 33 50)
  have g34 : C_numbers P w K mg base C := ok_numbers Bt g27 g26 (df_of X G c 34 51)
  have g35 : C_rising P w K mg base C := ok_rising Bt (df_of X G c 35 52)
  have g36 : C_some P w K mg base C := ok_some Bt g29 (df_of X G c 36 53)
  have g37 : C_parts P w K mg base C := ok_parts Bt g36 g27 (df_of X G c 37 54)
  have g38 : C_sizes P w K mg base C := ok_sizes Bt g30 g31 (df_of X G c 38 55)
  have g39 : C_fitting P w K mg base C := ok_fitting Bt g38 (df_of X G c 39 56)
  have g40 : C_let P w K mg base C := ok_let Bt g33 g32 (df_of X G c 40 57)
  have g41 : C_words P w K mg base C := ok_words Bt g40 (df_of X G c 41 58)
  have g42 : C_drawn P w K mg base C := ok_drawn g34 g28 g26 g27 g35 g37 g39 g41 (df_of X G c 42 59)
  have g43 : C_is_place P w K mg base C := ok_is_place Bt (df_of X G c 43 60)
  have g44 : C_is_pages P w K mg base C := ok_is_pages Bt (df_of X G c 44 61)
  have g45 : C_truly P w K mg base C := ok_truly Bt (df_of X G c 45 62)
  have g46 : C_words_read P w K mg base C := ok_words_read Bt g45 (df_of X G c 46 63)
  have g47 : C_feet_read P w K mg base C := ok_feet_read Bt g31 g45 (df_of X G c 47 64)
  have g48 : C_laid P w K mg base C := ok_laid Bt g43 (df_of X G c 48 65)
  exact ok_law Bt g42 g27 g26 g22 g48 g25 g44 g46 g47 (df_of X G c 49 66)
end Tl
open PySem PySem.W PyProof.Rows PySem.Calls
theorem PySem.Challenge.cw_trueleaf_k68_whole_pages_tell_the_truth_holds : PySem.Challenge.rw_trueleaf_k68_whole_pages_tell_the_truth.Holds := by
  w_on; o_law
  refine HandSHeadRun.head_any (r := Tl.R) (q := view Tl.R.prog [Tl.lawAt]) (H := Tl.hk) (ob := Tl.ob) (M := 2000) (loose := Tl.loose) (d := HandSHeadRun.topDef Tl.R.prog Tl.lawAt) (kwd := []) Tl.ob_eq (by kernel_rfl) (fun s => by kernel_rfl) Tl.run (by kernel_rfl) (by kernel_rfl) (by kernel_rfl) (by rfl)
    (by first | assumption | decide +kernel) (by decide +kernel) ⟨rfl, rfl, rfl, rfl, rfl, by decide +kernel⟩ ?hw ?hc
  case hw => w_witness2
  case hc =>
    refine PV.law_end (most := 63) (k := 11) (pre := fun _ => True) rfl (by decide) (by kernel_rfl) ⟨rfl, by decide, by decide⟩ (by kernel_rfl) (fun _ _ => trivial) fun w mg h Y G => ?_
    obtain ⟨K, KX, c⟩ := Y
    exact ⟨K, fun _ => 0, KX, fun base => Tl.made (fun _ => 0) KX G c base⟩
